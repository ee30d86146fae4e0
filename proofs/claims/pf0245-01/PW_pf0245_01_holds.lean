import PyProof.Rows.All
import Wide.All
import OpenK.AllK
import Wide.FinOn
import PySem.Challenge.RW_pf0245_01
open PySem PySem.W PyProof.Rows PySem.Calls
set_option Elab.async false
set_option linter.unusedVariables false
namespace Mine
abbrev pw : Program := PySem.Challenge.pw_pf0245_01
noncomputable def stm (i : Nat) : Stmt := (pw.main.body[i]?).getD (.Pass ⟨0, 0, 0, 0⟩)
noncomputable def cBody : Stmt → List Stmt | .ClassDef _ _ _ b .. => b | _ => []
noncomputable def sub (i j : Nat) : Stmt := ((cBody (stm i))[j]?).getD (.Pass ⟨0, 0, 0, 0⟩)
noncomputable def fArgs : Stmt → Arguments | .FunctionDef _ a .. => a | _ => ⟨[], [], none, [], [], none, []⟩
noncomputable def fBody : Stmt → List Stmt | .FunctionDef _ _ b .. => b | _ => []
noncomputable def fScope : Stmt → Scope | .FunctionDef _ _ _ _ _ _ s .. => s | _ => { kind := .function, names := [], isGenerator := false, isCoroutine := false, more := [] }

set_option maxRecDepth 100000
-- pre 12 block 0 fin 1 m0 11 toks0 181 pretoks 187 prepos ⟨0, 0, 0, 0⟩ blockpos ⟨0, 0, 0, 0⟩
-- cut 5: from 0 stmts 6 steps 914 size 126 toks 336 pos ⟨36, 0, 40, 30⟩
-- cut 9: from 6 stmts 4 steps 852 size 174 toks 400 pos ⟨47, 0, 48, 8⟩
-- cut 17: from 10 stmts 8 steps 720 size 265 toks 542 pos ⟨101, 0, 123, 31⟩
-- cut 25: from 18 stmts 8 steps 759 size 370 toks 684 pos ⟨160, 0, 180, 33⟩
-- cut 32: from 26 stmts 7 steps 688 size 454 toks 816 pos ⟨223, 0, 228, 37⟩
-- cut 36: from 33 stmts 4 steps 1019 size 587 toks 1009 pos ⟨303, 0, 320, 20⟩
-- cut 48: from 37 stmts 12 steps 332 size 652 toks 1104 pos ⟨393, 0, 406, 33⟩
noncomputable def o11 : Obj := { cls := .type "tuple", data := .seq #[] }
noncomputable def o12 : Obj := { cls := .none, data := .fields #[] }
noncomputable def o13 : Obj := { cls := .type "code", data := .fields #[.str "<module>" 182, .str "<module>" 183, .str "/claim/cut.py" 184, .int 1 0, .int 0 0, .int 0 0, .int 0 0, .int 0 0, .ref 11, .bool false, .int 181 0, .ref 12, .none, .none, .none, .none, .int 185 0, .int 1 0, .str "/claim/cut.py" 186] }
noncomputable def o14 : Obj := { cls := .type "frame", slots := #[some (.ref 13), some (.ref 3), some (.ref 3), none, some (.str "__main__" 164), none, some (.ref 0)] }
noncomputable def o2 (P : Params) : Obj := { cls := .none, data := .dict #[⟨PyData.keyHash P "type.__subclasses__.Exception.0", .str "type.__subclasses__.Exception.0" 332, .int 122 0⟩, ⟨PyData.keyHash P "type.__subclasses__.Exception.n", .str "type.__subclasses__.Exception.n" 333, .int 1 0⟩] 2 }
noncomputable def o3 (P : Params) : Obj := { cls := .type "dict", data := .dict #[⟨PyData.keyHash P "__name__", .str "__name__" 165, .str "pixelpress.errors" 305⟩, ⟨PyData.keyHash P "__doc__", .str "__doc__" 166, .none⟩, ⟨PyData.keyHash P "__package__", .str "__package__" 167, .none⟩, ⟨PyData.keyHash P "__loader__", .str "__loader__" 168, .builtin "__main__.__loader__#opaque"⟩, ⟨PyData.keyHash P "__spec__", .str "__spec__" 169, .none⟩, ⟨PyData.keyHash P "__annotations__", .str "__annotations__" 170, .ref 6⟩, ⟨PyData.keyHash P "__builtins__", .str "__builtins__" 171, .ref 4⟩, ⟨PyData.keyHash P "__file__", .str "__file__" 173, .str "/claim/cut.py" 172⟩, ⟨PyData.keyHash P "__cached__", .str "__cached__" 174, .none⟩, ⟨PyData.keyHash P "_wall", .str "_wall" 193, .ref 21⟩, ⟨PyData.keyHash P "DirectWriter", .str "DirectWriter" 249, .ref 59⟩, ⟨PyData.keyHash P "DirectReader", .str "DirectReader" 304, .ref 101⟩, ⟨PyData.keyHash P "PressError", .str "PressError" 335, .ref 122⟩] 13 }
noncomputable def o12_1 : Obj := { cls := .none, data := .fields #[.int 1 0, .int 0 0, .ref 20, .int 5 0, .int 0 0, .ref 27, .int 20 0, .int 0 0, .ref 69, .int 36 0, .int 0 0, .ref 111] }
noncomputable def o17 : Obj := { cls := .type "tuple", data := .seq #[.str "k" 190] }
noncomputable def o19 : Obj := { cls := .none, data := .func { name := "_wall", qualname := "_wall", params := fArgs (stm 0), body := .stmts (fBody (stm 0)), scope := fScope (stm 0), globals := 0, closure := [], defaults := .none, kwdefaults := .none, doc := .none, pyModule := .none, annotations := none, code := .none, closureTuple := .none, builtins := 0 } }
noncomputable def o20 : Obj := { cls := .type "code", data := .fields #[.str "_wall" 187, .str "_wall" 188, .str "/claim/cut.py" 189, .int 1 0, .int 1 0, .int 0 0, .int 0 0, .int 3 0, .ref 15, .bool true, .int 181 0, .ref 16, .none, .ref 17, .ref 18, .ref 19, .int 191 0, .int 1 0, .str "/claim/cut.py" 192] }
noncomputable def o21 : Obj := { cls := .type "function", data := .func (fnOf "_wall" "_wall" (fArgs (stm 0)) (fBody (stm 0)) (fScope (stm 0)) .none .none .none (.str "__main__" 164) none (.ref 20) .none) }
noncomputable def o23 : Obj := { cls := .type "builtin_function_or_method", data := .fields #[.builtin "type.__prepare__", .type "type"] }
noncomputable def o24 (P : Params) : Obj := { cls := .type "dict", data := .dict #[⟨PyData.keyHash P "__module__", .str "__module__" 203, .str "pixelpress.direct_dc" 194⟩, ⟨PyData.keyHash P "__qualname__", .str "__qualname__" 205, .str "DirectWriter" 204⟩, ⟨PyData.keyHash P "__firstlineno__", .str "__firstlineno__" 207, .int 5 206⟩, ⟨PyData.keyHash P "__init__", .str "__init__" 216, .ref 35⟩, ⟨PyData.keyHash P "start", .str "start" 223, .ref 42⟩, ⟨PyData.keyHash P "code", .str "code" 232, .ref 49⟩, ⟨PyData.keyHash P "finish", .str "finish" 239, .ref 56⟩, ⟨PyData.keyHash P "__static_attributes__", .str "__static_attributes__" 242, .ref 57⟩] 8 }
noncomputable def o26 : Obj := { cls := .none, data := .fields #[.int 7 0, .int 4 0, .ref 34, .int 11 0, .int 4 0, .ref 41, .int 14 0, .int 4 0, .ref 48, .int 18 0, .int 4 0, .ref 55] }
noncomputable def o27 : Obj := { cls := .type "code", data := .fields #[.str "DirectWriter" 198, .str "DirectWriter" 199, .str "/claim/cut.py" 200, .int 5 0, .int 0 0, .int 0 0, .int 0 0, .int 0 0, .ref 25, .bool false, .int 181 0, .ref 26, .none, .none, .none, .none, .int 201 0, .int 5 0, .str "/claim/cut.py" 202] }
noncomputable def o28 : Obj := { cls := .type "frame", slots := #[some (.ref 27), some (.ref 3), some (.ref 24), none, some (.str "pixelpress.direct_dc" 194), none, some (.ref 0)] }
noncomputable def o31 : Obj := { cls := .type "tuple", data := .seq #[.str "self" 211, .str "inner" 212, .str "many" 213] }
noncomputable def o33 : Obj := { cls := .none, data := .func { name := "__init__", qualname := "DirectWriter.__init__", params := fArgs (sub 2 0), body := .stmts (fBody (sub 2 0)), scope := fScope (sub 2 0), globals := 0, closure := [], defaults := .none, kwdefaults := .none, doc := .none, pyModule := .none, annotations := none, code := .none, closureTuple := .none, builtins := 0 } }
noncomputable def o34 : Obj := { cls := .type "code", data := .fields #[.str "__init__" 208, .str "DirectWriter.__init__" 209, .str "/claim/cut.py" 210, .int 7 0, .int 3 0, .int 0 0, .int 0 0, .int 3 0, .ref 29, .bool true, .int 181 0, .ref 30, .none, .ref 31, .ref 32, .ref 33, .int 214 0, .int 7 0, .str "/claim/cut.py" 215] }
noncomputable def o35 : Obj := { cls := .type "function", data := .func (fnOf "__init__" "DirectWriter.__init__" (fArgs (sub 2 0)) (fBody (sub 2 0)) (fScope (sub 2 0)) .none .none .none (.str "pixelpress.direct_dc" 194) none (.ref 34) .none) }
noncomputable def o38 : Obj := { cls := .type "tuple", data := .seq #[.str "self" 220] }
noncomputable def o40 : Obj := { cls := .none, data := .func { name := "start", qualname := "DirectWriter.start", params := fArgs (sub 2 1), body := .stmts (fBody (sub 2 1)), scope := fScope (sub 2 1), globals := 0, closure := [], defaults := .none, kwdefaults := .none, doc := .none, pyModule := .none, annotations := none, code := .none, closureTuple := .none, builtins := 0 } }
noncomputable def o41 : Obj := { cls := .type "code", data := .fields #[.str "start" 217, .str "DirectWriter.start" 218, .str "/claim/cut.py" 219, .int 11 0, .int 1 0, .int 0 0, .int 0 0, .int 3 0, .ref 36, .bool true, .int 181 0, .ref 37, .none, .ref 38, .ref 39, .ref 40, .int 221 0, .int 11 0, .str "/claim/cut.py" 222] }
noncomputable def o42 : Obj := { cls := .type "function", data := .func (fnOf "start" "DirectWriter.start" (fArgs (sub 2 1)) (fBody (sub 2 1)) (fScope (sub 2 1)) .none .none .none (.str "pixelpress.direct_dc" 194) none (.ref 41) .none) }
noncomputable def o45 : Obj := { cls := .type "tuple", data := .seq #[.str "self" 227, .str "place" 228, .str "row" 229] }
noncomputable def o47 : Obj := { cls := .none, data := .func { name := "code", qualname := "DirectWriter.code", params := fArgs (sub 2 2), body := .stmts (fBody (sub 2 2)), scope := fScope (sub 2 2), globals := 0, closure := [], defaults := .none, kwdefaults := .none, doc := .none, pyModule := .none, annotations := none, code := .none, closureTuple := .none, builtins := 0 } }
noncomputable def o48 : Obj := { cls := .type "code", data := .fields #[.str "code" 224, .str "DirectWriter.code" 225, .str "/claim/cut.py" 226, .int 14 0, .int 3 0, .int 0 0, .int 0 0, .int 3 0, .ref 43, .bool true, .int 181 0, .ref 44, .none, .ref 45, .ref 46, .ref 47, .int 230 0, .int 14 0, .str "/claim/cut.py" 231] }
noncomputable def o49 : Obj := { cls := .type "function", data := .func (fnOf "code" "DirectWriter.code" (fArgs (sub 2 2)) (fBody (sub 2 2)) (fScope (sub 2 2)) .none .none .none (.str "pixelpress.direct_dc" 194) none (.ref 48) .none) }
noncomputable def o52 : Obj := { cls := .type "tuple", data := .seq #[.str "self" 236] }
noncomputable def o54 : Obj := { cls := .none, data := .func { name := "finish", qualname := "DirectWriter.finish", params := fArgs (sub 2 3), body := .stmts (fBody (sub 2 3)), scope := fScope (sub 2 3), globals := 0, closure := [], defaults := .none, kwdefaults := .none, doc := .none, pyModule := .none, annotations := none, code := .none, closureTuple := .none, builtins := 0 } }
noncomputable def o55 : Obj := { cls := .type "code", data := .fields #[.str "finish" 233, .str "DirectWriter.finish" 234, .str "/claim/cut.py" 235, .int 18 0, .int 1 0, .int 0 0, .int 0 0, .int 3 0, .ref 50, .bool true, .int 181 0, .ref 51, .none, .ref 52, .ref 53, .ref 54, .int 237 0, .int 18 0, .str "/claim/cut.py" 238] }
noncomputable def o56 : Obj := { cls := .type "function", data := .func (fnOf "finish" "DirectWriter.finish" (fArgs (sub 2 3)) (fBody (sub 2 3)) (fScope (sub 2 3)) .none .none .none (.str "pixelpress.direct_dc" 194) none (.ref 55) .none) }
noncomputable def o57 : Obj := { cls := .type "tuple", data := .seq #[.str "inner" 240, .str "many" 241] }
noncomputable def o58 (P : Params) : Obj := { cls := .type "dict", data := .dict #[⟨PyData.keyHash P "__module__", .str "__module__" 203, .str "pixelpress.direct_dc" 194⟩, ⟨PyData.keyHash P "__firstlineno__", .str "__firstlineno__" 207, .int 5 206⟩, ⟨PyData.keyHash P "__init__", .str "__init__" 216, .ref 35⟩, ⟨PyData.keyHash P "start", .str "start" 223, .ref 42⟩, ⟨PyData.keyHash P "code", .str "code" 232, .ref 49⟩, ⟨PyData.keyHash P "finish", .str "finish" 239, .ref 56⟩, ⟨PyData.keyHash P "__static_attributes__", .str "__static_attributes__" 242, .ref 57⟩, ⟨PyData.keyHash P "__dict__", .str "__dict__" 244, .ref 60⟩, ⟨PyData.keyHash P "__weakref__", .str "__weakref__" 246, .ref 61⟩, ⟨PyData.keyHash P "__doc__", .str "__doc__" 247, .none⟩] 4 }
noncomputable def o59 : Obj := { cls := .type "type", data := .cls { name := "DirectWriter", bases := [.type "object"], mro := [.ref 59, .type "object"], ns := 58, qualname := "DirectWriter", hasDict := true, slotNames := [], subclasses := [], abstract := false, collection := none, hasDel := false }, slots := #[none, none, some (.str "DirectWriter" 196), some (.str "DirectWriter" 204), some (.builtin "object.__new__"), some (.bool true)] }
noncomputable def o60 : Obj := { cls := .type "getset_descriptor", data := .fields #[.str "__dict__" 243, .ref 59, .builtin "function.__dict__", .builtin "function.__dict__#set"] }
noncomputable def o61 : Obj := { cls := .type "getset_descriptor", data := .fields #[.str "__weakref__" 245, .ref 59, .builtin "ExceptionGroup.__weakref__", .none] }
noncomputable def o62 : Obj := { cls := .type "super", data := .fields #[.ref 59, .ref 59, .ref 59] }
noncomputable def o63 : Obj := { cls := .type "builtin_function_or_method", data := .fields #[.builtin "object.__init_subclass__", .ref 59] }
noncomputable def o66 (P : Params) : Obj := { cls := .type "dict", data := .dict #[⟨PyData.keyHash P "__module__", .str "__module__" 257, .str "pixelpress.direct_dc" 194⟩, ⟨PyData.keyHash P "__qualname__", .str "__qualname__" 259, .str "DirectReader" 258⟩, ⟨PyData.keyHash P "__firstlineno__", .str "__firstlineno__" 261, .int 20 260⟩, ⟨PyData.keyHash P "__init__", .str "__init__" 270, .ref 77⟩, ⟨PyData.keyHash P "start", .str "start" 278, .ref 84⟩, ⟨PyData.keyHash P "read", .str "read" 287, .ref 91⟩, ⟨PyData.keyHash P "finish", .str "finish" 294, .ref 98⟩, ⟨PyData.keyHash P "__static_attributes__", .str "__static_attributes__" 297, .ref 99⟩] 8 }
noncomputable def o68 : Obj := { cls := .none, data := .fields #[.int 22 0, .int 4 0, .ref 76, .int 26 0, .int 4 0, .ref 83, .int 29 0, .int 4 0, .ref 90, .int 33 0, .int 4 0, .ref 97] }
noncomputable def o69 : Obj := { cls := .type "code", data := .fields #[.str "DirectReader" 252, .str "DirectReader" 253, .str "/claim/cut.py" 254, .int 20 0, .int 0 0, .int 0 0, .int 0 0, .int 0 0, .ref 67, .bool false, .int 181 0, .ref 68, .none, .none, .none, .none, .int 255 0, .int 20 0, .str "/claim/cut.py" 256] }
noncomputable def o70 : Obj := { cls := .type "frame", slots := #[some (.ref 69), some (.ref 3), some (.ref 66), none, some (.str "pixelpress.direct_dc" 194), none, some (.ref 0)] }
noncomputable def o73 : Obj := { cls := .type "tuple", data := .seq #[.str "self" 265, .str "inner" 266, .str "many" 267] }
noncomputable def o75 : Obj := { cls := .none, data := .func { name := "__init__", qualname := "DirectReader.__init__", params := fArgs (sub 3 0), body := .stmts (fBody (sub 3 0)), scope := fScope (sub 3 0), globals := 0, closure := [], defaults := .none, kwdefaults := .none, doc := .none, pyModule := .none, annotations := none, code := .none, closureTuple := .none, builtins := 0 } }
noncomputable def o76 : Obj := { cls := .type "code", data := .fields #[.str "__init__" 262, .str "DirectReader.__init__" 263, .str "/claim/cut.py" 264, .int 22 0, .int 3 0, .int 0 0, .int 0 0, .int 3 0, .ref 71, .bool true, .int 181 0, .ref 72, .none, .ref 73, .ref 74, .ref 75, .int 268 0, .int 22 0, .str "/claim/cut.py" 269] }
noncomputable def o77 : Obj := { cls := .type "function", data := .func (fnOf "__init__" "DirectReader.__init__" (fArgs (sub 3 0)) (fBody (sub 3 0)) (fScope (sub 3 0)) .none .none .none (.str "pixelpress.direct_dc" 194) none (.ref 76) .none) }
noncomputable def o80 : Obj := { cls := .type "tuple", data := .seq #[.str "self" 274, .str "octets" 275] }
noncomputable def o82 : Obj := { cls := .none, data := .func { name := "start", qualname := "DirectReader.start", params := fArgs (sub 3 1), body := .stmts (fBody (sub 3 1)), scope := fScope (sub 3 1), globals := 0, closure := [], defaults := .none, kwdefaults := .none, doc := .none, pyModule := .none, annotations := none, code := .none, closureTuple := .none, builtins := 0 } }
noncomputable def o83 : Obj := { cls := .type "code", data := .fields #[.str "start" 271, .str "DirectReader.start" 272, .str "/claim/cut.py" 273, .int 26 0, .int 2 0, .int 0 0, .int 0 0, .int 3 0, .ref 78, .bool true, .int 181 0, .ref 79, .none, .ref 80, .ref 81, .ref 82, .int 276 0, .int 26 0, .str "/claim/cut.py" 277] }
noncomputable def o84 : Obj := { cls := .type "function", data := .func (fnOf "start" "DirectReader.start" (fArgs (sub 3 1)) (fBody (sub 3 1)) (fScope (sub 3 1)) .none .none .none (.str "pixelpress.direct_dc" 194) none (.ref 83) .none) }
noncomputable def o87 : Obj := { cls := .type "tuple", data := .seq #[.str "self" 282, .str "place" 283, .str "row" 284] }
noncomputable def o89 : Obj := { cls := .none, data := .func { name := "read", qualname := "DirectReader.read", params := fArgs (sub 3 2), body := .stmts (fBody (sub 3 2)), scope := fScope (sub 3 2), globals := 0, closure := [], defaults := .none, kwdefaults := .none, doc := .none, pyModule := .none, annotations := none, code := .none, closureTuple := .none, builtins := 0 } }
noncomputable def o90 : Obj := { cls := .type "code", data := .fields #[.str "read" 279, .str "DirectReader.read" 280, .str "/claim/cut.py" 281, .int 29 0, .int 3 0, .int 0 0, .int 0 0, .int 3 0, .ref 85, .bool true, .int 181 0, .ref 86, .none, .ref 87, .ref 88, .ref 89, .int 285 0, .int 29 0, .str "/claim/cut.py" 286] }
noncomputable def o91 : Obj := { cls := .type "function", data := .func (fnOf "read" "DirectReader.read" (fArgs (sub 3 2)) (fBody (sub 3 2)) (fScope (sub 3 2)) .none .none .none (.str "pixelpress.direct_dc" 194) none (.ref 90) .none) }
noncomputable def o94 : Obj := { cls := .type "tuple", data := .seq #[.str "self" 291] }
noncomputable def o96 : Obj := { cls := .none, data := .func { name := "finish", qualname := "DirectReader.finish", params := fArgs (sub 3 3), body := .stmts (fBody (sub 3 3)), scope := fScope (sub 3 3), globals := 0, closure := [], defaults := .none, kwdefaults := .none, doc := .none, pyModule := .none, annotations := none, code := .none, closureTuple := .none, builtins := 0 } }
noncomputable def o97 : Obj := { cls := .type "code", data := .fields #[.str "finish" 288, .str "DirectReader.finish" 289, .str "/claim/cut.py" 290, .int 33 0, .int 1 0, .int 0 0, .int 0 0, .int 3 0, .ref 92, .bool true, .int 181 0, .ref 93, .none, .ref 94, .ref 95, .ref 96, .int 292 0, .int 33 0, .str "/claim/cut.py" 293] }
noncomputable def o98 : Obj := { cls := .type "function", data := .func (fnOf "finish" "DirectReader.finish" (fArgs (sub 3 3)) (fBody (sub 3 3)) (fScope (sub 3 3)) .none .none .none (.str "pixelpress.direct_dc" 194) none (.ref 97) .none) }
noncomputable def o99 : Obj := { cls := .type "tuple", data := .seq #[.str "inner" 295, .str "many" 296] }
noncomputable def o100 (P : Params) : Obj := { cls := .type "dict", data := .dict #[⟨PyData.keyHash P "__module__", .str "__module__" 257, .str "pixelpress.direct_dc" 194⟩, ⟨PyData.keyHash P "__firstlineno__", .str "__firstlineno__" 261, .int 20 260⟩, ⟨PyData.keyHash P "__init__", .str "__init__" 270, .ref 77⟩, ⟨PyData.keyHash P "start", .str "start" 278, .ref 84⟩, ⟨PyData.keyHash P "read", .str "read" 287, .ref 91⟩, ⟨PyData.keyHash P "finish", .str "finish" 294, .ref 98⟩, ⟨PyData.keyHash P "__static_attributes__", .str "__static_attributes__" 297, .ref 99⟩, ⟨PyData.keyHash P "__dict__", .str "__dict__" 299, .ref 102⟩, ⟨PyData.keyHash P "__weakref__", .str "__weakref__" 301, .ref 103⟩, ⟨PyData.keyHash P "__doc__", .str "__doc__" 302, .none⟩] 4 }
noncomputable def o101 : Obj := { cls := .type "type", data := .cls { name := "DirectReader", bases := [.type "object"], mro := [.ref 101, .type "object"], ns := 100, qualname := "DirectReader", hasDict := true, slotNames := [], subclasses := [], abstract := false, collection := none, hasDel := false }, slots := #[none, none, some (.str "DirectReader" 250), some (.str "DirectReader" 258), some (.builtin "object.__new__"), some (.bool true)] }
noncomputable def o102 : Obj := { cls := .type "getset_descriptor", data := .fields #[.str "__dict__" 298, .ref 101, .builtin "function.__dict__", .builtin "function.__dict__#set"] }
noncomputable def o103 : Obj := { cls := .type "getset_descriptor", data := .fields #[.str "__weakref__" 300, .ref 101, .builtin "ExceptionGroup.__weakref__", .none] }
noncomputable def o104 : Obj := { cls := .type "super", data := .fields #[.ref 101, .ref 101, .ref 101] }
noncomputable def o105 : Obj := { cls := .type "builtin_function_or_method", data := .fields #[.builtin "object.__init_subclass__", .ref 101] }
noncomputable def o106 : Obj := { cls := .type "tuple", data := .seq #[.type "Exception"] }
noncomputable def o108 (P : Params) : Obj := { cls := .type "dict", data := .dict #[⟨PyData.keyHash P "__module__", .str "__module__" 314, .str "pixelpress.errors" 305⟩, ⟨PyData.keyHash P "__qualname__", .str "__qualname__" 316, .str "PressError" 315⟩, ⟨PyData.keyHash P "__firstlineno__", .str "__firstlineno__" 318, .int 36 317⟩, ⟨PyData.keyHash P "__init__", .str "__init__" 326, .ref 119⟩, ⟨PyData.keyHash P "__static_attributes__", .str "__static_attributes__" 328, .ref 120⟩] 5 }
noncomputable def o110 : Obj := { cls := .none, data := .fields #[.int 38 0, .int 4 0, .ref 118] }
noncomputable def o111 : Obj := { cls := .type "code", data := .fields #[.str "PressError" 309, .str "PressError" 310, .str "/claim/cut.py" 311, .int 36 0, .int 0 0, .int 0 0, .int 0 0, .int 0 0, .ref 109, .bool false, .int 181 0, .ref 110, .none, .none, .none, .none, .int 312 0, .int 36 0, .str "/claim/cut.py" 313] }
noncomputable def o112 : Obj := { cls := .type "frame", slots := #[some (.ref 111), some (.ref 3), some (.ref 108), none, some (.str "pixelpress.errors" 305), none, some (.ref 0)] }
noncomputable def o115 : Obj := { cls := .type "tuple", data := .seq #[.str "self" 322, .str "message" 323] }
noncomputable def o117 : Obj := { cls := .none, data := .func { name := "__init__", qualname := "PressError.__init__", params := fArgs (sub 5 0), body := .stmts (fBody (sub 5 0)), scope := fScope (sub 5 0), globals := 0, closure := [], defaults := .none, kwdefaults := .none, doc := .none, pyModule := .none, annotations := none, code := .none, closureTuple := .none, builtins := 0 } }
noncomputable def o118 : Obj := { cls := .type "code", data := .fields #[.str "__init__" 319, .str "PressError.__init__" 320, .str "/claim/cut.py" 321, .int 38 0, .int 2 0, .int 0 0, .int 0 0, .int 3 0, .ref 113, .bool true, .int 181 0, .ref 114, .none, .ref 115, .ref 116, .ref 117, .int 324 0, .int 38 0, .str "/claim/cut.py" 325] }
noncomputable def o119 : Obj := { cls := .type "function", data := .func (fnOf "__init__" "PressError.__init__" (fArgs (sub 5 0)) (fBody (sub 5 0)) (fScope (sub 5 0)) .none .none .none (.str "pixelpress.errors" 305) none (.ref 118) .none) }
noncomputable def o120 : Obj := { cls := .type "tuple", data := .seq #[.str "message" 327] }
noncomputable def o121 (P : Params) : Obj := { cls := .type "dict", data := .dict #[⟨PyData.keyHash P "__module__", .str "__module__" 314, .str "pixelpress.errors" 305⟩, ⟨PyData.keyHash P "__firstlineno__", .str "__firstlineno__" 318, .int 36 317⟩, ⟨PyData.keyHash P "__init__", .str "__init__" 326, .ref 119⟩, ⟨PyData.keyHash P "__static_attributes__", .str "__static_attributes__" 328, .ref 120⟩, ⟨PyData.keyHash P "__weakref__", .str "__weakref__" 330, .ref 123⟩, ⟨PyData.keyHash P "__doc__", .str "__doc__" 331, .none⟩] 3 }
noncomputable def o122 : Obj := { cls := .type "type", data := .cls { name := "PressError", bases := [.type "Exception"], mro := [.ref 122, .type "Exception", .type "BaseException", .type "object"], ns := 121, qualname := "PressError", hasDict := true, slotNames := [], subclasses := [], abstract := false, collection := none, hasDel := false }, slots := #[some (.ref 106), none, some (.str "PressError" 307), some (.str "PressError" 315), some (.builtin "Exception.__new__"), some (.bool true)] }
noncomputable def o123 : Obj := { cls := .type "getset_descriptor", data := .fields #[.str "__weakref__" 329, .ref 122, .builtin "ExceptionGroup.__weakref__", .none] }
noncomputable def o124 : Obj := { cls := .type "super", data := .fields #[.ref 122, .ref 122, .ref 122] }
noncomputable def o125 : Obj := { cls := .type "builtin_function_or_method", data := .fields #[.builtin "object.__init_subclass__", .ref 122] }
noncomputable def o3_1 (P : Params) : Obj := { cls := .type "dict", data := .dict #[⟨PyData.keyHash P "__name__", .str "__name__" 165, .str "pixelpress.errors" 305⟩, ⟨PyData.keyHash P "__doc__", .str "__doc__" 166, .none⟩, ⟨PyData.keyHash P "__package__", .str "__package__" 167, .none⟩, ⟨PyData.keyHash P "__loader__", .str "__loader__" 168, .builtin "__main__.__loader__#opaque"⟩, ⟨PyData.keyHash P "__spec__", .str "__spec__" 169, .none⟩, ⟨PyData.keyHash P "__annotations__", .str "__annotations__" 170, .ref 6⟩, ⟨PyData.keyHash P "__builtins__", .str "__builtins__" 171, .ref 4⟩, ⟨PyData.keyHash P "__file__", .str "__file__" 173, .str "/claim/cut.py" 172⟩, ⟨PyData.keyHash P "__cached__", .str "__cached__" 174, .none⟩, ⟨PyData.keyHash P "_wall", .str "_wall" 193, .ref 21⟩, ⟨PyData.keyHash P "DirectWriter", .str "DirectWriter" 249, .ref 59⟩, ⟨PyData.keyHash P "DirectReader", .str "DirectReader" 304, .ref 101⟩, ⟨PyData.keyHash P "PressError", .str "PressError" 335, .ref 122⟩, ⟨PyData.keyHash P "TableError", .str "TableError" 351, .ref 135⟩, ⟨PyData.keyHash P "CodeError", .str "CodeError" 367, .ref 147⟩, ⟨PyData.keyHash P "CutError", .str "CutError" 383, .ref 159⟩, ⟨PyData.keyHash P "RangeError", .str "RangeError" 399, .ref 171⟩] 17 }
noncomputable def o12_2 : Obj := { cls := .none, data := .fields #[.int 1 0, .int 0 0, .ref 20, .int 5 0, .int 0 0, .ref 27, .int 20 0, .int 0 0, .ref 69, .int 36 0, .int 0 0, .ref 111, .int 41 0, .int 0 0, .ref 131, .int 43 0, .int 0 0, .ref 143, .int 45 0, .int 0 0, .ref 155, .int 47 0, .int 0 0, .ref 167] }
noncomputable def o122_1 : Obj := { cls := .type "type", data := .cls { name := "PressError", bases := [.type "Exception"], mro := [.ref 122, .type "Exception", .type "BaseException", .type "object"], ns := 121, qualname := "PressError", hasDict := true, slotNames := [], subclasses := [.ref 135, .ref 147, .ref 159, .ref 171], abstract := false, collection := none, hasDel := false }, slots := #[some (.ref 106), none, some (.str "PressError" 307), some (.str "PressError" 315), some (.builtin "Exception.__new__"), some (.bool true)] }
noncomputable def o126 : Obj := { cls := .type "tuple", data := .seq #[.ref 122] }
noncomputable def o128 (P : Params) : Obj := { cls := .type "dict", data := .dict #[⟨PyData.keyHash P "__module__", .str "__module__" 343, .str "pixelpress.errors" 305⟩, ⟨PyData.keyHash P "__qualname__", .str "__qualname__" 345, .str "TableError" 344⟩, ⟨PyData.keyHash P "__firstlineno__", .str "__firstlineno__" 347, .int 41 346⟩, ⟨PyData.keyHash P "__static_attributes__", .str "__static_attributes__" 348, .ref 133⟩] 4 }
noncomputable def o131 : Obj := { cls := .type "code", data := .fields #[.str "TableError" 338, .str "TableError" 339, .str "/claim/cut.py" 340, .int 41 0, .int 0 0, .int 0 0, .int 0 0, .int 0 0, .ref 129, .bool false, .int 181 0, .ref 130, .none, .none, .none, .none, .int 341 0, .int 41 0, .str "/claim/cut.py" 342] }
noncomputable def o132 : Obj := { cls := .type "frame", slots := #[some (.ref 131), some (.ref 3), some (.ref 128), none, some (.str "pixelpress.errors" 305), none, some (.ref 0)] }
noncomputable def o134 (P : Params) : Obj := { cls := .type "dict", data := .dict #[⟨PyData.keyHash P "__module__", .str "__module__" 343, .str "pixelpress.errors" 305⟩, ⟨PyData.keyHash P "__firstlineno__", .str "__firstlineno__" 347, .int 41 346⟩, ⟨PyData.keyHash P "__static_attributes__", .str "__static_attributes__" 348, .ref 133⟩, ⟨PyData.keyHash P "__doc__", .str "__doc__" 349, .none⟩] 2 }
noncomputable def o135 : Obj := { cls := .type "type", data := .cls { name := "TableError", bases := [.ref 122], mro := [.ref 135, .ref 122, .type "Exception", .type "BaseException", .type "object"], ns := 134, qualname := "TableError", hasDict := true, slotNames := [], subclasses := [], abstract := false, collection := none, hasDel := false }, slots := #[some (.ref 126), none, some (.str "TableError" 336), some (.str "TableError" 344), some (.builtin "Exception.__new__"), some (.bool true)] }
noncomputable def o136 : Obj := { cls := .type "super", data := .fields #[.ref 135, .ref 135, .ref 135] }
noncomputable def o137 : Obj := { cls := .type "builtin_function_or_method", data := .fields #[.builtin "object.__init_subclass__", .ref 135] }
noncomputable def o140 (P : Params) : Obj := { cls := .type "dict", data := .dict #[⟨PyData.keyHash P "__module__", .str "__module__" 359, .str "pixelpress.errors" 305⟩, ⟨PyData.keyHash P "__qualname__", .str "__qualname__" 361, .str "CodeError" 360⟩, ⟨PyData.keyHash P "__firstlineno__", .str "__firstlineno__" 363, .int 43 362⟩, ⟨PyData.keyHash P "__static_attributes__", .str "__static_attributes__" 364, .ref 145⟩] 4 }
noncomputable def o143 : Obj := { cls := .type "code", data := .fields #[.str "CodeError" 354, .str "CodeError" 355, .str "/claim/cut.py" 356, .int 43 0, .int 0 0, .int 0 0, .int 0 0, .int 0 0, .ref 141, .bool false, .int 181 0, .ref 142, .none, .none, .none, .none, .int 357 0, .int 43 0, .str "/claim/cut.py" 358] }
noncomputable def o144 : Obj := { cls := .type "frame", slots := #[some (.ref 143), some (.ref 3), some (.ref 140), none, some (.str "pixelpress.errors" 305), none, some (.ref 0)] }
noncomputable def o146 (P : Params) : Obj := { cls := .type "dict", data := .dict #[⟨PyData.keyHash P "__module__", .str "__module__" 359, .str "pixelpress.errors" 305⟩, ⟨PyData.keyHash P "__firstlineno__", .str "__firstlineno__" 363, .int 43 362⟩, ⟨PyData.keyHash P "__static_attributes__", .str "__static_attributes__" 364, .ref 145⟩, ⟨PyData.keyHash P "__doc__", .str "__doc__" 365, .none⟩] 2 }
noncomputable def o147 : Obj := { cls := .type "type", data := .cls { name := "CodeError", bases := [.ref 122], mro := [.ref 147, .ref 122, .type "Exception", .type "BaseException", .type "object"], ns := 146, qualname := "CodeError", hasDict := true, slotNames := [], subclasses := [], abstract := false, collection := none, hasDel := false }, slots := #[some (.ref 138), none, some (.str "CodeError" 352), some (.str "CodeError" 360), some (.builtin "Exception.__new__"), some (.bool true)] }
noncomputable def o148 : Obj := { cls := .type "super", data := .fields #[.ref 147, .ref 147, .ref 147] }
noncomputable def o149 : Obj := { cls := .type "builtin_function_or_method", data := .fields #[.builtin "object.__init_subclass__", .ref 147] }
noncomputable def o152 (P : Params) : Obj := { cls := .type "dict", data := .dict #[⟨PyData.keyHash P "__module__", .str "__module__" 375, .str "pixelpress.errors" 305⟩, ⟨PyData.keyHash P "__qualname__", .str "__qualname__" 377, .str "CutError" 376⟩, ⟨PyData.keyHash P "__firstlineno__", .str "__firstlineno__" 379, .int 45 378⟩, ⟨PyData.keyHash P "__static_attributes__", .str "__static_attributes__" 380, .ref 157⟩] 4 }
noncomputable def o155 : Obj := { cls := .type "code", data := .fields #[.str "CutError" 370, .str "CutError" 371, .str "/claim/cut.py" 372, .int 45 0, .int 0 0, .int 0 0, .int 0 0, .int 0 0, .ref 153, .bool false, .int 181 0, .ref 154, .none, .none, .none, .none, .int 373 0, .int 45 0, .str "/claim/cut.py" 374] }
noncomputable def o156 : Obj := { cls := .type "frame", slots := #[some (.ref 155), some (.ref 3), some (.ref 152), none, some (.str "pixelpress.errors" 305), none, some (.ref 0)] }
noncomputable def o158 (P : Params) : Obj := { cls := .type "dict", data := .dict #[⟨PyData.keyHash P "__module__", .str "__module__" 375, .str "pixelpress.errors" 305⟩, ⟨PyData.keyHash P "__firstlineno__", .str "__firstlineno__" 379, .int 45 378⟩, ⟨PyData.keyHash P "__static_attributes__", .str "__static_attributes__" 380, .ref 157⟩, ⟨PyData.keyHash P "__doc__", .str "__doc__" 381, .none⟩] 2 }
noncomputable def o159 : Obj := { cls := .type "type", data := .cls { name := "CutError", bases := [.ref 122], mro := [.ref 159, .ref 122, .type "Exception", .type "BaseException", .type "object"], ns := 158, qualname := "CutError", hasDict := true, slotNames := [], subclasses := [], abstract := false, collection := none, hasDel := false }, slots := #[some (.ref 150), none, some (.str "CutError" 368), some (.str "CutError" 376), some (.builtin "Exception.__new__"), some (.bool true)] }
noncomputable def o160 : Obj := { cls := .type "super", data := .fields #[.ref 159, .ref 159, .ref 159] }
noncomputable def o161 : Obj := { cls := .type "builtin_function_or_method", data := .fields #[.builtin "object.__init_subclass__", .ref 159] }
noncomputable def o164 (P : Params) : Obj := { cls := .type "dict", data := .dict #[⟨PyData.keyHash P "__module__", .str "__module__" 391, .str "pixelpress.errors" 305⟩, ⟨PyData.keyHash P "__qualname__", .str "__qualname__" 393, .str "RangeError" 392⟩, ⟨PyData.keyHash P "__firstlineno__", .str "__firstlineno__" 395, .int 47 394⟩, ⟨PyData.keyHash P "__static_attributes__", .str "__static_attributes__" 396, .ref 169⟩] 4 }
noncomputable def o167 : Obj := { cls := .type "code", data := .fields #[.str "RangeError" 386, .str "RangeError" 387, .str "/claim/cut.py" 388, .int 47 0, .int 0 0, .int 0 0, .int 0 0, .int 0 0, .ref 165, .bool false, .int 181 0, .ref 166, .none, .none, .none, .none, .int 389 0, .int 47 0, .str "/claim/cut.py" 390] }
noncomputable def o168 : Obj := { cls := .type "frame", slots := #[some (.ref 167), some (.ref 3), some (.ref 164), none, some (.str "pixelpress.errors" 305), none, some (.ref 0)] }
noncomputable def o170 (P : Params) : Obj := { cls := .type "dict", data := .dict #[⟨PyData.keyHash P "__module__", .str "__module__" 391, .str "pixelpress.errors" 305⟩, ⟨PyData.keyHash P "__firstlineno__", .str "__firstlineno__" 395, .int 47 394⟩, ⟨PyData.keyHash P "__static_attributes__", .str "__static_attributes__" 396, .ref 169⟩, ⟨PyData.keyHash P "__doc__", .str "__doc__" 397, .none⟩] 2 }
noncomputable def o171 : Obj := { cls := .type "type", data := .cls { name := "RangeError", bases := [.ref 122], mro := [.ref 171, .ref 122, .type "Exception", .type "BaseException", .type "object"], ns := 170, qualname := "RangeError", hasDict := true, slotNames := [], subclasses := [], abstract := false, collection := none, hasDel := false }, slots := #[some (.ref 162), none, some (.str "RangeError" 384), some (.str "RangeError" 392), some (.builtin "Exception.__new__"), some (.bool true)] }
noncomputable def o172 : Obj := { cls := .type "super", data := .fields #[.ref 171, .ref 171, .ref 171] }
noncomputable def o173 : Obj := { cls := .type "builtin_function_or_method", data := .fields #[.builtin "object.__init_subclass__", .ref 171] }
noncomputable def o3_2 (P : Params) : Obj := { cls := .type "dict", data := .dict #[⟨PyData.keyHash P "__name__", .str "__name__" 165, .str "pixelpress.bits" 487⟩, ⟨PyData.keyHash P "__doc__", .str "__doc__" 166, .none⟩, ⟨PyData.keyHash P "__package__", .str "__package__" 167, .none⟩, ⟨PyData.keyHash P "__loader__", .str "__loader__" 168, .builtin "__main__.__loader__#opaque"⟩, ⟨PyData.keyHash P "__spec__", .str "__spec__" 169, .none⟩, ⟨PyData.keyHash P "__annotations__", .str "__annotations__" 170, .ref 6⟩, ⟨PyData.keyHash P "__builtins__", .str "__builtins__" 171, .ref 4⟩, ⟨PyData.keyHash P "__file__", .str "__file__" 173, .str "/claim/cut.py" 172⟩, ⟨PyData.keyHash P "__cached__", .str "__cached__" 174, .none⟩, ⟨PyData.keyHash P "_wall", .str "_wall" 193, .ref 21⟩, ⟨PyData.keyHash P "DirectWriter", .str "DirectWriter" 249, .ref 59⟩, ⟨PyData.keyHash P "DirectReader", .str "DirectReader" 304, .ref 101⟩, ⟨PyData.keyHash P "PressError", .str "PressError" 335, .ref 122⟩, ⟨PyData.keyHash P "TableError", .str "TableError" 351, .ref 135⟩, ⟨PyData.keyHash P "CodeError", .str "CodeError" 367, .ref 147⟩, ⟨PyData.keyHash P "CutError", .str "CutError" 383, .ref 159⟩, ⟨PyData.keyHash P "RangeError", .str "RangeError" 399, .ref 171⟩, ⟨PyData.keyHash P "MOST_BITS", .str "MOST_BITS" 403, .int 16 402⟩, ⟨PyData.keyHash P "MOST_SYMBOLS", .str "MOST_SYMBOLS" 405, .int 256 404⟩, ⟨PyData.keyHash P "code_rows", .str "code_rows" 417, .ref 180⟩, ⟨PyData.keyHash P "check_told", .str "check_told" 427, .ref 187⟩, ⟨PyData.keyHash P "HuffTable", .str "HuffTable" 486, .ref 218⟩, ⟨PyData.keyHash P "BitWriter", .str "BitWriter" 541, .ref 260⟩] 23 }
noncomputable def o12_3 : Obj := { cls := .none, data := .fields #[.int 1 0, .int 0 0, .ref 20, .int 5 0, .int 0 0, .ref 27, .int 20 0, .int 0 0, .ref 69, .int 36 0, .int 0 0, .ref 111, .int 41 0, .int 0 0, .ref 131, .int 43 0, .int 0 0, .ref 143, .int 45 0, .int 0 0, .ref 155, .int 47 0, .int 0 0, .ref 167, .int 52 0, .int 0 0, .ref 179, .int 64 0, .int 0 0, .ref 186, .int 74 0, .int 0 0, .ref 193, .int 101 0, .int 0 0, .ref 228] }
noncomputable def o176 : Obj := { cls := .type "tuple", data := .seq #[.str "counts" 409, .str "rows" 410, .str "code" 411, .str "place" 412, .str "size" 413, .str "many" 414] }
noncomputable def o178 : Obj := { cls := .none, data := .func { name := "code_rows", qualname := "code_rows", params := fArgs (stm 13), body := .stmts (fBody (stm 13)), scope := fScope (stm 13), globals := 0, closure := [], defaults := .none, kwdefaults := .none, doc := .none, pyModule := .none, annotations := none, code := .none, closureTuple := .none, builtins := 0 } }
noncomputable def o179 : Obj := { cls := .type "code", data := .fields #[.str "code_rows" 406, .str "code_rows" 407, .str "/claim/cut.py" 408, .int 52 0, .int 1 0, .int 0 0, .int 0 0, .int 3 0, .ref 174, .bool true, .int 181 0, .ref 175, .none, .ref 176, .ref 177, .ref 178, .int 415 0, .int 52 0, .str "/claim/cut.py" 416] }
noncomputable def o180 : Obj := { cls := .type "function", data := .func (fnOf "code_rows" "code_rows" (fArgs (stm 13)) (fBody (stm 13)) (fScope (stm 13)) .none .none .none (.str "pixelpress.huffman" 400) none (.ref 179) .none) }
noncomputable def o183 : Obj := { cls := .type "tuple", data := .seq #[.str "counts" 421, .str "symbols" 422, .str "met" 423, .str "symbol" 424] }
noncomputable def o185 : Obj := { cls := .none, data := .func { name := "check_told", qualname := "check_told", params := fArgs (stm 14), body := .stmts (fBody (stm 14)), scope := fScope (stm 14), globals := 0, closure := [], defaults := .none, kwdefaults := .none, doc := .none, pyModule := .none, annotations := none, code := .none, closureTuple := .none, builtins := 0 } }
noncomputable def o186 : Obj := { cls := .type "code", data := .fields #[.str "check_told" 418, .str "check_told" 419, .str "/claim/cut.py" 420, .int 64 0, .int 2 0, .int 0 0, .int 0 0, .int 3 0, .ref 181, .bool true, .int 181 0, .ref 182, .none, .ref 183, .ref 184, .ref 185, .int 425 0, .int 64 0, .str "/claim/cut.py" 426] }
noncomputable def o187 : Obj := { cls := .type "function", data := .func (fnOf "check_told" "check_told" (fArgs (stm 14)) (fBody (stm 14)) (fScope (stm 14)) .none .none .none (.str "pixelpress.huffman" 400) none (.ref 186) .none) }
noncomputable def o190 (P : Params) : Obj := { cls := .type "dict", data := .dict #[⟨PyData.keyHash P "__module__", .str "__module__" 435, .str "pixelpress.huffman" 400⟩, ⟨PyData.keyHash P "__qualname__", .str "__qualname__" 437, .str "HuffTable" 436⟩, ⟨PyData.keyHash P "__firstlineno__", .str "__firstlineno__" 439, .int 74 438⟩, ⟨PyData.keyHash P "__init__", .str "__init__" 453, .ref 201⟩, ⟨PyData.keyHash P "code", .str "code" 462, .ref 208⟩, ⟨PyData.keyHash P "read", .str "read" 474, .ref 215⟩, ⟨PyData.keyHash P "__static_attributes__", .str "__static_attributes__" 479, .ref 216⟩] 7 }
noncomputable def o192 : Obj := { cls := .none, data := .fields #[.int 76 0, .int 4 0, .ref 200, .int 87 0, .int 4 0, .ref 207, .int 93 0, .int 4 0, .ref 214] }
noncomputable def o193 : Obj := { cls := .type "code", data := .fields #[.str "HuffTable" 430, .str "HuffTable" 431, .str "/claim/cut.py" 432, .int 74 0, .int 0 0, .int 0 0, .int 0 0, .int 0 0, .ref 191, .bool false, .int 181 0, .ref 192, .none, .none, .none, .none, .int 433 0, .int 74 0, .str "/claim/cut.py" 434] }
noncomputable def o194 : Obj := { cls := .type "frame", slots := #[some (.ref 193), some (.ref 3), some (.ref 190), none, some (.str "pixelpress.huffman" 400), none, some (.ref 0)] }
noncomputable def o197 : Obj := { cls := .type "tuple", data := .seq #[.str "self" 443, .str "counts" 444, .str "symbols" 445, .str "size" 446, .str "first" 447, .str "many" 448, .str "place" 449, .str "k" 450] }
noncomputable def o199 : Obj := { cls := .none, data := .func { name := "__init__", qualname := "HuffTable.__init__", params := fArgs (sub 15 0), body := .stmts (fBody (sub 15 0)), scope := fScope (sub 15 0), globals := 0, closure := [], defaults := .none, kwdefaults := .none, doc := .none, pyModule := .none, annotations := none, code := .none, closureTuple := .none, builtins := 0 } }
noncomputable def o200 : Obj := { cls := .type "code", data := .fields #[.str "__init__" 440, .str "HuffTable.__init__" 441, .str "/claim/cut.py" 442, .int 76 0, .int 3 0, .int 0 0, .int 0 0, .int 3 0, .ref 195, .bool true, .int 181 0, .ref 196, .none, .ref 197, .ref 198, .ref 199, .int 451 0, .int 76 0, .str "/claim/cut.py" 452] }
noncomputable def o201 : Obj := { cls := .type "function", data := .func (fnOf "__init__" "HuffTable.__init__" (fArgs (sub 15 0)) (fBody (sub 15 0)) (fScope (sub 15 0)) .none .none .none (.str "pixelpress.huffman" 400) none (.ref 200) .none) }
noncomputable def o204 : Obj := { cls := .type "tuple", data := .seq #[.str "self" 457, .str "symbol" 458, .str "found" 459] }
noncomputable def o206 : Obj := { cls := .none, data := .func { name := "code", qualname := "HuffTable.code", params := fArgs (sub 15 1), body := .stmts (fBody (sub 15 1)), scope := fScope (sub 15 1), globals := 0, closure := [], defaults := .none, kwdefaults := .none, doc := .none, pyModule := .none, annotations := none, code := .none, closureTuple := .none, builtins := 0 } }
noncomputable def o207 : Obj := { cls := .type "code", data := .fields #[.str "code" 454, .str "HuffTable.code" 455, .str "/claim/cut.py" 456, .int 87 0, .int 2 0, .int 0 0, .int 0 0, .int 3 0, .ref 202, .bool true, .int 181 0, .ref 203, .none, .ref 204, .ref 205, .ref 206, .int 460 0, .int 87 0, .str "/claim/cut.py" 461] }
noncomputable def o208 : Obj := { cls := .type "function", data := .func (fnOf "code" "HuffTable.code" (fArgs (sub 15 1)) (fBody (sub 15 1)) (fScope (sub 15 1)) .none .none .none (.str "pixelpress.huffman" 400) none (.ref 207) .none) }
noncomputable def o211 : Obj := { cls := .type "tuple", data := .seq #[.str "self" 466, .str "reader" 467, .str "code" 468, .str "first" 469, .str "many" 470, .str "place" 471] }
noncomputable def o213 : Obj := { cls := .none, data := .func { name := "read", qualname := "HuffTable.read", params := fArgs (sub 15 2), body := .stmts (fBody (sub 15 2)), scope := fScope (sub 15 2), globals := 0, closure := [], defaults := .none, kwdefaults := .none, doc := .none, pyModule := .none, annotations := none, code := .none, closureTuple := .none, builtins := 0 } }
noncomputable def o214 : Obj := { cls := .type "code", data := .fields #[.str "read" 463, .str "HuffTable.read" 464, .str "/claim/cut.py" 465, .int 93 0, .int 2 0, .int 0 0, .int 0 0, .int 3 0, .ref 209, .bool true, .int 181 0, .ref 210, .none, .ref 211, .ref 212, .ref 213, .int 472 0, .int 93 0, .str "/claim/cut.py" 473] }
noncomputable def o215 : Obj := { cls := .type "function", data := .func (fnOf "read" "HuffTable.read" (fArgs (sub 15 2)) (fBody (sub 15 2)) (fScope (sub 15 2)) .none .none .none (.str "pixelpress.huffman" 400) none (.ref 214) .none) }
noncomputable def o216 : Obj := { cls := .type "tuple", data := .seq #[.str "codes" 475, .str "counts" 476, .str "rows" 477, .str "symbols" 478] }
noncomputable def o217 (P : Params) : Obj := { cls := .type "dict", data := .dict #[⟨PyData.keyHash P "__module__", .str "__module__" 435, .str "pixelpress.huffman" 400⟩, ⟨PyData.keyHash P "__firstlineno__", .str "__firstlineno__" 439, .int 74 438⟩, ⟨PyData.keyHash P "__init__", .str "__init__" 453, .ref 201⟩, ⟨PyData.keyHash P "code", .str "code" 462, .ref 208⟩, ⟨PyData.keyHash P "read", .str "read" 474, .ref 215⟩, ⟨PyData.keyHash P "__static_attributes__", .str "__static_attributes__" 479, .ref 216⟩, ⟨PyData.keyHash P "__dict__", .str "__dict__" 481, .ref 219⟩, ⟨PyData.keyHash P "__weakref__", .str "__weakref__" 483, .ref 220⟩, ⟨PyData.keyHash P "__doc__", .str "__doc__" 484, .none⟩] 4 }
noncomputable def o218 : Obj := { cls := .type "type", data := .cls { name := "HuffTable", bases := [.type "object"], mro := [.ref 218, .type "object"], ns := 217, qualname := "HuffTable", hasDict := true, slotNames := [], subclasses := [], abstract := false, collection := none, hasDel := false }, slots := #[none, none, some (.str "HuffTable" 428), some (.str "HuffTable" 436), some (.builtin "object.__new__"), some (.bool true)] }
noncomputable def o219 : Obj := { cls := .type "getset_descriptor", data := .fields #[.str "__dict__" 480, .ref 218, .builtin "function.__dict__", .builtin "function.__dict__#set"] }
noncomputable def o220 : Obj := { cls := .type "getset_descriptor", data := .fields #[.str "__weakref__" 482, .ref 218, .builtin "ExceptionGroup.__weakref__", .none] }
noncomputable def o221 : Obj := { cls := .type "super", data := .fields #[.ref 218, .ref 218, .ref 218] }
noncomputable def o222 : Obj := { cls := .type "builtin_function_or_method", data := .fields #[.builtin "object.__init_subclass__", .ref 218] }
noncomputable def o225 (P : Params) : Obj := { cls := .type "dict", data := .dict #[⟨PyData.keyHash P "__module__", .str "__module__" 496, .str "pixelpress.bits" 487⟩, ⟨PyData.keyHash P "__qualname__", .str "__qualname__" 498, .str "BitWriter" 497⟩, ⟨PyData.keyHash P "__firstlineno__", .str "__firstlineno__" 500, .int 101 499⟩, ⟨PyData.keyHash P "__init__", .str "__init__" 507, .ref 236⟩, ⟨PyData.keyHash P "put", .str "put" 516, .ref 243⟩, ⟨PyData.keyHash P "pad", .str "pad" 523, .ref 250⟩, ⟨PyData.keyHash P "octets", .str "octets" 530, .ref 257⟩, ⟨PyData.keyHash P "__static_attributes__", .str "__static_attributes__" 534, .ref 258⟩] 8 }
noncomputable def o227 : Obj := { cls := .none, data := .fields #[.int 103 0, .int 4 0, .ref 235, .int 108 0, .int 4 0, .ref 242, .int 118 0, .int 4 0, .ref 249, .int 122 0, .int 4 0, .ref 256] }
noncomputable def o228 : Obj := { cls := .type "code", data := .fields #[.str "BitWriter" 491, .str "BitWriter" 492, .str "/claim/cut.py" 493, .int 101 0, .int 0 0, .int 0 0, .int 0 0, .int 0 0, .ref 226, .bool false, .int 181 0, .ref 227, .none, .none, .none, .none, .int 494 0, .int 101 0, .str "/claim/cut.py" 495] }
noncomputable def o229 : Obj := { cls := .type "frame", slots := #[some (.ref 228), some (.ref 3), some (.ref 225), none, some (.str "pixelpress.bits" 487), none, some (.ref 0)] }
noncomputable def o232 : Obj := { cls := .type "tuple", data := .seq #[.str "self" 504] }
noncomputable def o234 : Obj := { cls := .none, data := .func { name := "__init__", qualname := "BitWriter.__init__", params := fArgs (sub 17 0), body := .stmts (fBody (sub 17 0)), scope := fScope (sub 17 0), globals := 0, closure := [], defaults := .none, kwdefaults := .none, doc := .none, pyModule := .none, annotations := none, code := .none, closureTuple := .none, builtins := 0 } }
noncomputable def o235 : Obj := { cls := .type "code", data := .fields #[.str "__init__" 501, .str "BitWriter.__init__" 502, .str "/claim/cut.py" 503, .int 103 0, .int 1 0, .int 0 0, .int 0 0, .int 3 0, .ref 230, .bool true, .int 181 0, .ref 231, .none, .ref 232, .ref 233, .ref 234, .int 505 0, .int 103 0, .str "/claim/cut.py" 506] }
noncomputable def o236 : Obj := { cls := .type "function", data := .func (fnOf "__init__" "BitWriter.__init__" (fArgs (sub 17 0)) (fBody (sub 17 0)) (fScope (sub 17 0)) .none .none .none (.str "pixelpress.bits" 487) none (.ref 235) .none) }
noncomputable def o239 : Obj := { cls := .type "tuple", data := .seq #[.str "self" 511, .str "value" 512, .str "size" 513] }
noncomputable def o241 : Obj := { cls := .none, data := .func { name := "put", qualname := "BitWriter.put", params := fArgs (sub 17 1), body := .stmts (fBody (sub 17 1)), scope := fScope (sub 17 1), globals := 0, closure := [], defaults := .none, kwdefaults := .none, doc := .none, pyModule := .none, annotations := none, code := .none, closureTuple := .none, builtins := 0 } }
noncomputable def o242 : Obj := { cls := .type "code", data := .fields #[.str "put" 508, .str "BitWriter.put" 509, .str "/claim/cut.py" 510, .int 108 0, .int 3 0, .int 0 0, .int 0 0, .int 3 0, .ref 237, .bool true, .int 181 0, .ref 238, .none, .ref 239, .ref 240, .ref 241, .int 514 0, .int 108 0, .str "/claim/cut.py" 515] }
noncomputable def o243 : Obj := { cls := .type "function", data := .func (fnOf "put" "BitWriter.put" (fArgs (sub 17 1)) (fBody (sub 17 1)) (fScope (sub 17 1)) .none .none .none (.str "pixelpress.bits" 487) none (.ref 242) .none) }
noncomputable def o246 : Obj := { cls := .type "tuple", data := .seq #[.str "self" 520] }
noncomputable def o248 : Obj := { cls := .none, data := .func { name := "pad", qualname := "BitWriter.pad", params := fArgs (sub 17 2), body := .stmts (fBody (sub 17 2)), scope := fScope (sub 17 2), globals := 0, closure := [], defaults := .none, kwdefaults := .none, doc := .none, pyModule := .none, annotations := none, code := .none, closureTuple := .none, builtins := 0 } }
noncomputable def o249 : Obj := { cls := .type "code", data := .fields #[.str "pad" 517, .str "BitWriter.pad" 518, .str "/claim/cut.py" 519, .int 118 0, .int 1 0, .int 0 0, .int 0 0, .int 3 0, .ref 244, .bool true, .int 181 0, .ref 245, .none, .ref 246, .ref 247, .ref 248, .int 521 0, .int 118 0, .str "/claim/cut.py" 522] }
noncomputable def o250 : Obj := { cls := .type "function", data := .func (fnOf "pad" "BitWriter.pad" (fArgs (sub 17 2)) (fBody (sub 17 2)) (fScope (sub 17 2)) .none .none .none (.str "pixelpress.bits" 487) none (.ref 249) .none) }
noncomputable def o253 : Obj := { cls := .type "tuple", data := .seq #[.str "self" 527] }
noncomputable def o255 : Obj := { cls := .none, data := .func { name := "octets", qualname := "BitWriter.octets", params := fArgs (sub 17 3), body := .stmts (fBody (sub 17 3)), scope := fScope (sub 17 3), globals := 0, closure := [], defaults := .none, kwdefaults := .none, doc := .none, pyModule := .none, annotations := none, code := .none, closureTuple := .none, builtins := 0 } }
noncomputable def o256 : Obj := { cls := .type "code", data := .fields #[.str "octets" 524, .str "BitWriter.octets" 525, .str "/claim/cut.py" 526, .int 122 0, .int 1 0, .int 0 0, .int 0 0, .int 3 0, .ref 251, .bool true, .int 181 0, .ref 252, .none, .ref 253, .ref 254, .ref 255, .int 528 0, .int 122 0, .str "/claim/cut.py" 529] }
noncomputable def o257 : Obj := { cls := .type "function", data := .func (fnOf "octets" "BitWriter.octets" (fArgs (sub 17 3)) (fBody (sub 17 3)) (fScope (sub 17 3)) .none .none .none (.str "pixelpress.bits" 487) none (.ref 256) .none) }
noncomputable def o258 : Obj := { cls := .type "tuple", data := .seq #[.str "full" 531, .str "rest" 532, .str "size" 533] }
noncomputable def o259 (P : Params) : Obj := { cls := .type "dict", data := .dict #[⟨PyData.keyHash P "__module__", .str "__module__" 496, .str "pixelpress.bits" 487⟩, ⟨PyData.keyHash P "__firstlineno__", .str "__firstlineno__" 500, .int 101 499⟩, ⟨PyData.keyHash P "__init__", .str "__init__" 507, .ref 236⟩, ⟨PyData.keyHash P "put", .str "put" 516, .ref 243⟩, ⟨PyData.keyHash P "pad", .str "pad" 523, .ref 250⟩, ⟨PyData.keyHash P "octets", .str "octets" 530, .ref 257⟩, ⟨PyData.keyHash P "__static_attributes__", .str "__static_attributes__" 534, .ref 258⟩, ⟨PyData.keyHash P "__dict__", .str "__dict__" 536, .ref 261⟩, ⟨PyData.keyHash P "__weakref__", .str "__weakref__" 538, .ref 262⟩, ⟨PyData.keyHash P "__doc__", .str "__doc__" 539, .none⟩] 4 }
noncomputable def o260 : Obj := { cls := .type "type", data := .cls { name := "BitWriter", bases := [.type "object"], mro := [.ref 260, .type "object"], ns := 259, qualname := "BitWriter", hasDict := true, slotNames := [], subclasses := [], abstract := false, collection := none, hasDel := false }, slots := #[none, none, some (.str "BitWriter" 489), some (.str "BitWriter" 497), some (.builtin "object.__new__"), some (.bool true)] }
noncomputable def o261 : Obj := { cls := .type "getset_descriptor", data := .fields #[.str "__dict__" 535, .ref 260, .builtin "function.__dict__", .builtin "function.__dict__#set"] }
noncomputable def o262 : Obj := { cls := .type "getset_descriptor", data := .fields #[.str "__weakref__" 537, .ref 260, .builtin "ExceptionGroup.__weakref__", .none] }
noncomputable def o263 : Obj := { cls := .type "super", data := .fields #[.ref 260, .ref 260, .ref 260] }
noncomputable def o264 : Obj := { cls := .type "builtin_function_or_method", data := .fields #[.builtin "object.__init_subclass__", .ref 260] }
noncomputable def o3_3 (P : Params) : Obj := { cls := .type "dict", data := .dict #[⟨PyData.keyHash P "__name__", .str "__name__" 165, .str "pixelpress.progressive_dc" 622⟩, ⟨PyData.keyHash P "__doc__", .str "__doc__" 166, .none⟩, ⟨PyData.keyHash P "__package__", .str "__package__" 167, .none⟩, ⟨PyData.keyHash P "__loader__", .str "__loader__" 168, .builtin "__main__.__loader__#opaque"⟩, ⟨PyData.keyHash P "__spec__", .str "__spec__" 169, .none⟩, ⟨PyData.keyHash P "__annotations__", .str "__annotations__" 170, .ref 6⟩, ⟨PyData.keyHash P "__builtins__", .str "__builtins__" 171, .ref 4⟩, ⟨PyData.keyHash P "__file__", .str "__file__" 173, .str "/claim/cut.py" 172⟩, ⟨PyData.keyHash P "__cached__", .str "__cached__" 174, .none⟩, ⟨PyData.keyHash P "_wall", .str "_wall" 193, .ref 21⟩, ⟨PyData.keyHash P "DirectWriter", .str "DirectWriter" 249, .ref 59⟩, ⟨PyData.keyHash P "DirectReader", .str "DirectReader" 304, .ref 101⟩, ⟨PyData.keyHash P "PressError", .str "PressError" 335, .ref 122⟩, ⟨PyData.keyHash P "TableError", .str "TableError" 351, .ref 135⟩, ⟨PyData.keyHash P "CodeError", .str "CodeError" 367, .ref 147⟩, ⟨PyData.keyHash P "CutError", .str "CutError" 383, .ref 159⟩, ⟨PyData.keyHash P "RangeError", .str "RangeError" 399, .ref 171⟩, ⟨PyData.keyHash P "MOST_BITS", .str "MOST_BITS" 403, .int 16 402⟩, ⟨PyData.keyHash P "MOST_SYMBOLS", .str "MOST_SYMBOLS" 405, .int 256 404⟩, ⟨PyData.keyHash P "code_rows", .str "code_rows" 417, .ref 180⟩, ⟨PyData.keyHash P "check_told", .str "check_told" 427, .ref 187⟩, ⟨PyData.keyHash P "HuffTable", .str "HuffTable" 486, .ref 218⟩, ⟨PyData.keyHash P "BitWriter", .str "BitWriter" 541, .ref 260⟩, ⟨PyData.keyHash P "BitReader", .str "BitReader" 596, .ref 302⟩, ⟨PyData.keyHash P "category", .str "category" 605, .ref 313⟩, ⟨PyData.keyHash P "bits_of", .str "bits_of" 613, .ref 320⟩, ⟨PyData.keyHash P "value_of", .str "value_of" 621, .ref 327⟩, ⟨PyData.keyHash P "MOST_CATEGORY", .str "MOST_CATEGORY" 625, .int 15 624⟩, ⟨PyData.keyHash P "DcFirstWriter", .str "DcFirstWriter" 683, .ref 365⟩] 29 }
noncomputable def o12_4 : Obj := { cls := .none, data := .fields #[.int 1 0, .int 0 0, .ref 20, .int 5 0, .int 0 0, .ref 27, .int 20 0, .int 0 0, .ref 69, .int 36 0, .int 0 0, .ref 111, .int 41 0, .int 0 0, .ref 131, .int 43 0, .int 0 0, .ref 143, .int 45 0, .int 0 0, .ref 155, .int 47 0, .int 0 0, .ref 167, .int 52 0, .int 0 0, .ref 179, .int 64 0, .int 0 0, .ref 186, .int 74 0, .int 0 0, .ref 193, .int 101 0, .int 0 0, .ref 228, .int 124 0, .int 0 0, .ref 270, .int 148 0, .int 0 0, .ref 312, .int 150 0, .int 0 0, .ref 319, .int 154 0, .int 0 0, .ref 326, .int 160 0, .int 0 0, .ref 333] }
noncomputable def o267 (P : Params) : Obj := { cls := .type "dict", data := .dict #[⟨PyData.keyHash P "__module__", .str "__module__" 549, .str "pixelpress.bits" 487⟩, ⟨PyData.keyHash P "__qualname__", .str "__qualname__" 551, .str "BitReader" 550⟩, ⟨PyData.keyHash P "__firstlineno__", .str "__firstlineno__" 553, .int 124 552⟩, ⟨PyData.keyHash P "__init__", .str "__init__" 561, .ref 278⟩, ⟨PyData.keyHash P "left", .str "left" 568, .ref 285⟩, ⟨PyData.keyHash P "bit", .str "bit" 576, .ref 292⟩, ⟨PyData.keyHash P "bits", .str "bits" 586, .ref 299⟩, ⟨PyData.keyHash P "__static_attributes__", .str "__static_attributes__" 589, .ref 300⟩] 8 }
noncomputable def o269 : Obj := { cls := .none, data := .fields #[.int 126 0, .int 4 0, .ref 277, .int 130 0, .int 4 0, .ref 284, .int 133 0, .int 4 0, .ref 291, .int 140 0, .int 4 0, .ref 298] }
noncomputable def o270 : Obj := { cls := .type "code", data := .fields #[.str "BitReader" 544, .str "BitReader" 545, .str "/claim/cut.py" 546, .int 124 0, .int 0 0, .int 0 0, .int 0 0, .int 0 0, .ref 268, .bool false, .int 181 0, .ref 269, .none, .none, .none, .none, .int 547 0, .int 124 0, .str "/claim/cut.py" 548] }
noncomputable def o271 : Obj := { cls := .type "frame", slots := #[some (.ref 270), some (.ref 3), some (.ref 267), none, some (.str "pixelpress.bits" 487), none, some (.ref 0)] }
noncomputable def o274 : Obj := { cls := .type "tuple", data := .seq #[.str "self" 557, .str "octets" 558] }
noncomputable def o276 : Obj := { cls := .none, data := .func { name := "__init__", qualname := "BitReader.__init__", params := fArgs (sub 18 0), body := .stmts (fBody (sub 18 0)), scope := fScope (sub 18 0), globals := 0, closure := [], defaults := .none, kwdefaults := .none, doc := .none, pyModule := .none, annotations := none, code := .none, closureTuple := .none, builtins := 0 } }
noncomputable def o277 : Obj := { cls := .type "code", data := .fields #[.str "__init__" 554, .str "BitReader.__init__" 555, .str "/claim/cut.py" 556, .int 126 0, .int 2 0, .int 0 0, .int 0 0, .int 3 0, .ref 272, .bool true, .int 181 0, .ref 273, .none, .ref 274, .ref 275, .ref 276, .int 559 0, .int 126 0, .str "/claim/cut.py" 560] }
noncomputable def o278 : Obj := { cls := .type "function", data := .func (fnOf "__init__" "BitReader.__init__" (fArgs (sub 18 0)) (fBody (sub 18 0)) (fScope (sub 18 0)) .none .none .none (.str "pixelpress.bits" 487) none (.ref 277) .none) }
noncomputable def o281 : Obj := { cls := .type "tuple", data := .seq #[.str "self" 565] }
noncomputable def o283 : Obj := { cls := .none, data := .func { name := "left", qualname := "BitReader.left", params := fArgs (sub 18 1), body := .stmts (fBody (sub 18 1)), scope := fScope (sub 18 1), globals := 0, closure := [], defaults := .none, kwdefaults := .none, doc := .none, pyModule := .none, annotations := none, code := .none, closureTuple := .none, builtins := 0 } }
noncomputable def o284 : Obj := { cls := .type "code", data := .fields #[.str "left" 562, .str "BitReader.left" 563, .str "/claim/cut.py" 564, .int 130 0, .int 1 0, .int 0 0, .int 0 0, .int 3 0, .ref 279, .bool true, .int 181 0, .ref 280, .none, .ref 281, .ref 282, .ref 283, .int 566 0, .int 130 0, .str "/claim/cut.py" 567] }
noncomputable def o285 : Obj := { cls := .type "function", data := .func (fnOf "left" "BitReader.left" (fArgs (sub 18 1)) (fBody (sub 18 1)) (fScope (sub 18 1)) .none .none .none (.str "pixelpress.bits" 487) none (.ref 284) .none) }
noncomputable def o288 : Obj := { cls := .type "tuple", data := .seq #[.str "self" 572, .str "found" 573] }
noncomputable def o290 : Obj := { cls := .none, data := .func { name := "bit", qualname := "BitReader.bit", params := fArgs (sub 18 2), body := .stmts (fBody (sub 18 2)), scope := fScope (sub 18 2), globals := 0, closure := [], defaults := .none, kwdefaults := .none, doc := .none, pyModule := .none, annotations := none, code := .none, closureTuple := .none, builtins := 0 } }
noncomputable def o291 : Obj := { cls := .type "code", data := .fields #[.str "bit" 569, .str "BitReader.bit" 570, .str "/claim/cut.py" 571, .int 133 0, .int 1 0, .int 0 0, .int 0 0, .int 3 0, .ref 286, .bool true, .int 181 0, .ref 287, .none, .ref 288, .ref 289, .ref 290, .int 574 0, .int 133 0, .str "/claim/cut.py" 575] }
noncomputable def o292 : Obj := { cls := .type "function", data := .func (fnOf "bit" "BitReader.bit" (fArgs (sub 18 2)) (fBody (sub 18 2)) (fScope (sub 18 2)) .none .none .none (.str "pixelpress.bits" 487) none (.ref 291) .none) }
noncomputable def o295 : Obj := { cls := .type "tuple", data := .seq #[.str "self" 580, .str "size" 581, .str "found" 582, .str "turn" 583] }
noncomputable def o297 : Obj := { cls := .none, data := .func { name := "bits", qualname := "BitReader.bits", params := fArgs (sub 18 3), body := .stmts (fBody (sub 18 3)), scope := fScope (sub 18 3), globals := 0, closure := [], defaults := .none, kwdefaults := .none, doc := .none, pyModule := .none, annotations := none, code := .none, closureTuple := .none, builtins := 0 } }
noncomputable def o298 : Obj := { cls := .type "code", data := .fields #[.str "bits" 577, .str "BitReader.bits" 578, .str "/claim/cut.py" 579, .int 140 0, .int 2 0, .int 0 0, .int 0 0, .int 3 0, .ref 293, .bool true, .int 181 0, .ref 294, .none, .ref 295, .ref 296, .ref 297, .int 584 0, .int 140 0, .str "/claim/cut.py" 585] }
noncomputable def o299 : Obj := { cls := .type "function", data := .func (fnOf "bits" "BitReader.bits" (fArgs (sub 18 3)) (fBody (sub 18 3)) (fScope (sub 18 3)) .none .none .none (.str "pixelpress.bits" 487) none (.ref 298) .none) }
noncomputable def o300 : Obj := { cls := .type "tuple", data := .seq #[.str "at" 587, .str "source" 588] }
noncomputable def o301 (P : Params) : Obj := { cls := .type "dict", data := .dict #[⟨PyData.keyHash P "__module__", .str "__module__" 549, .str "pixelpress.bits" 487⟩, ⟨PyData.keyHash P "__firstlineno__", .str "__firstlineno__" 553, .int 124 552⟩, ⟨PyData.keyHash P "__init__", .str "__init__" 561, .ref 278⟩, ⟨PyData.keyHash P "left", .str "left" 568, .ref 285⟩, ⟨PyData.keyHash P "bit", .str "bit" 576, .ref 292⟩, ⟨PyData.keyHash P "bits", .str "bits" 586, .ref 299⟩, ⟨PyData.keyHash P "__static_attributes__", .str "__static_attributes__" 589, .ref 300⟩, ⟨PyData.keyHash P "__dict__", .str "__dict__" 591, .ref 303⟩, ⟨PyData.keyHash P "__weakref__", .str "__weakref__" 593, .ref 304⟩, ⟨PyData.keyHash P "__doc__", .str "__doc__" 594, .none⟩] 4 }
noncomputable def o302 : Obj := { cls := .type "type", data := .cls { name := "BitReader", bases := [.type "object"], mro := [.ref 302, .type "object"], ns := 301, qualname := "BitReader", hasDict := true, slotNames := [], subclasses := [], abstract := false, collection := none, hasDel := false }, slots := #[none, none, some (.str "BitReader" 542), some (.str "BitReader" 550), some (.builtin "object.__new__"), some (.bool true)] }
noncomputable def o303 : Obj := { cls := .type "getset_descriptor", data := .fields #[.str "__dict__" 590, .ref 302, .builtin "function.__dict__", .builtin "function.__dict__#set"] }
noncomputable def o304 : Obj := { cls := .type "getset_descriptor", data := .fields #[.str "__weakref__" 592, .ref 302, .builtin "ExceptionGroup.__weakref__", .none] }
noncomputable def o305 : Obj := { cls := .type "super", data := .fields #[.ref 302, .ref 302, .ref 302] }
noncomputable def o306 : Obj := { cls := .type "builtin_function_or_method", data := .fields #[.builtin "object.__init_subclass__", .ref 302] }
noncomputable def o309 : Obj := { cls := .type "tuple", data := .seq #[.str "v" 602] }
noncomputable def o311 : Obj := { cls := .none, data := .func { name := "category", qualname := "category", params := fArgs (stm 20), body := .stmts (fBody (stm 20)), scope := fScope (stm 20), globals := 0, closure := [], defaults := .none, kwdefaults := .none, doc := .none, pyModule := .none, annotations := none, code := .none, closureTuple := .none, builtins := 0 } }
noncomputable def o312 : Obj := { cls := .type "code", data := .fields #[.str "category" 599, .str "category" 600, .str "/claim/cut.py" 601, .int 148 0, .int 1 0, .int 0 0, .int 0 0, .int 3 0, .ref 307, .bool true, .int 181 0, .ref 308, .none, .ref 309, .ref 310, .ref 311, .int 603 0, .int 148 0, .str "/claim/cut.py" 604] }
noncomputable def o313 : Obj := { cls := .type "function", data := .func (fnOf "category" "category" (fArgs (stm 20)) (fBody (stm 20)) (fScope (stm 20)) .none .none .none (.str "pixelpress.magnitude" 597) none (.ref 312) .none) }
noncomputable def o316 : Obj := { cls := .type "tuple", data := .seq #[.str "v" 609, .str "size" 610] }
noncomputable def o318 : Obj := { cls := .none, data := .func { name := "bits_of", qualname := "bits_of", params := fArgs (stm 21), body := .stmts (fBody (stm 21)), scope := fScope (stm 21), globals := 0, closure := [], defaults := .none, kwdefaults := .none, doc := .none, pyModule := .none, annotations := none, code := .none, closureTuple := .none, builtins := 0 } }
noncomputable def o319 : Obj := { cls := .type "code", data := .fields #[.str "bits_of" 606, .str "bits_of" 607, .str "/claim/cut.py" 608, .int 150 0, .int 2 0, .int 0 0, .int 0 0, .int 3 0, .ref 314, .bool true, .int 181 0, .ref 315, .none, .ref 316, .ref 317, .ref 318, .int 611 0, .int 150 0, .str "/claim/cut.py" 612] }
noncomputable def o320 : Obj := { cls := .type "function", data := .func (fnOf "bits_of" "bits_of" (fArgs (stm 21)) (fBody (stm 21)) (fScope (stm 21)) .none .none .none (.str "pixelpress.magnitude" 597) none (.ref 319) .none) }
noncomputable def o323 : Obj := { cls := .type "tuple", data := .seq #[.str "bits" 617, .str "size" 618] }
noncomputable def o325 : Obj := { cls := .none, data := .func { name := "value_of", qualname := "value_of", params := fArgs (stm 22), body := .stmts (fBody (stm 22)), scope := fScope (stm 22), globals := 0, closure := [], defaults := .none, kwdefaults := .none, doc := .none, pyModule := .none, annotations := none, code := .none, closureTuple := .none, builtins := 0 } }
noncomputable def o326 : Obj := { cls := .type "code", data := .fields #[.str "value_of" 614, .str "value_of" 615, .str "/claim/cut.py" 616, .int 154 0, .int 2 0, .int 0 0, .int 0 0, .int 3 0, .ref 321, .bool true, .int 181 0, .ref 322, .none, .ref 323, .ref 324, .ref 325, .int 619 0, .int 154 0, .str "/claim/cut.py" 620] }
noncomputable def o327 : Obj := { cls := .type "function", data := .func (fnOf "value_of" "value_of" (fArgs (stm 22)) (fBody (stm 22)) (fScope (stm 22)) .none .none .none (.str "pixelpress.magnitude" 597) none (.ref 326) .none) }
noncomputable def o330 (P : Params) : Obj := { cls := .type "dict", data := .dict #[⟨PyData.keyHash P "__module__", .str "__module__" 633, .str "pixelpress.progressive_dc" 622⟩, ⟨PyData.keyHash P "__qualname__", .str "__qualname__" 635, .str "DcFirstWriter" 634⟩, ⟨PyData.keyHash P "__firstlineno__", .str "__firstlineno__" 637, .int 160 636⟩, ⟨PyData.keyHash P "__init__", .str "__init__" 646, .ref 341⟩, ⟨PyData.keyHash P "start", .str "start" 653, .ref 348⟩, ⟨PyData.keyHash P "code", .str "code" 665, .ref 355⟩, ⟨PyData.keyHash P "finish", .str "finish" 672, .ref 362⟩, ⟨PyData.keyHash P "__static_attributes__", .str "__static_attributes__" 676, .ref 363⟩] 8 }
noncomputable def o332 : Obj := { cls := .none, data := .fields #[.int 162 0, .int 4 0, .ref 340, .int 167 0, .int 4 0, .ref 347, .int 170 0, .int 4 0, .ref 354, .int 179 0, .int 4 0, .ref 361] }
noncomputable def o333 : Obj := { cls := .type "code", data := .fields #[.str "DcFirstWriter" 628, .str "DcFirstWriter" 629, .str "/claim/cut.py" 630, .int 160 0, .int 0 0, .int 0 0, .int 0 0, .int 0 0, .ref 331, .bool false, .int 181 0, .ref 332, .none, .none, .none, .none, .int 631 0, .int 160 0, .str "/claim/cut.py" 632] }
noncomputable def o334 : Obj := { cls := .type "frame", slots := #[some (.ref 333), some (.ref 3), some (.ref 330), none, some (.str "pixelpress.progressive_dc" 622), none, some (.ref 0)] }
noncomputable def o337 : Obj := { cls := .type "tuple", data := .seq #[.str "self" 641, .str "scan" 642, .str "sink" 643] }
noncomputable def o339 : Obj := { cls := .none, data := .func { name := "__init__", qualname := "DcFirstWriter.__init__", params := fArgs (sub 25 0), body := .stmts (fBody (sub 25 0)), scope := fScope (sub 25 0), globals := 0, closure := [], defaults := .none, kwdefaults := .none, doc := .none, pyModule := .none, annotations := none, code := .none, closureTuple := .none, builtins := 0 } }
noncomputable def o340 : Obj := { cls := .type "code", data := .fields #[.str "__init__" 638, .str "DcFirstWriter.__init__" 639, .str "/claim/cut.py" 640, .int 162 0, .int 3 0, .int 0 0, .int 0 0, .int 3 0, .ref 335, .bool true, .int 181 0, .ref 336, .none, .ref 337, .ref 338, .ref 339, .int 644 0, .int 162 0, .str "/claim/cut.py" 645] }
noncomputable def o341 : Obj := { cls := .type "function", data := .func (fnOf "__init__" "DcFirstWriter.__init__" (fArgs (sub 25 0)) (fBody (sub 25 0)) (fScope (sub 25 0)) .none .none .none (.str "pixelpress.progressive_dc" 622) none (.ref 340) .none) }
noncomputable def o344 : Obj := { cls := .type "tuple", data := .seq #[.str "self" 650] }
noncomputable def o346 : Obj := { cls := .none, data := .func { name := "start", qualname := "DcFirstWriter.start", params := fArgs (sub 25 1), body := .stmts (fBody (sub 25 1)), scope := fScope (sub 25 1), globals := 0, closure := [], defaults := .none, kwdefaults := .none, doc := .none, pyModule := .none, annotations := none, code := .none, closureTuple := .none, builtins := 0 } }
noncomputable def o347 : Obj := { cls := .type "code", data := .fields #[.str "start" 647, .str "DcFirstWriter.start" 648, .str "/claim/cut.py" 649, .int 167 0, .int 1 0, .int 0 0, .int 0 0, .int 3 0, .ref 342, .bool true, .int 181 0, .ref 343, .none, .ref 344, .ref 345, .ref 346, .int 651 0, .int 167 0, .str "/claim/cut.py" 652] }
noncomputable def o348 : Obj := { cls := .type "function", data := .func (fnOf "start" "DcFirstWriter.start" (fArgs (sub 25 1)) (fBody (sub 25 1)) (fScope (sub 25 1)) .none .none .none (.str "pixelpress.progressive_dc" 622) none (.ref 347) .none) }
noncomputable def o351 : Obj := { cls := .type "tuple", data := .seq #[.str "self" 657, .str "place" 658, .str "row" 659, .str "value" 660, .str "difference" 661, .str "size" 662] }
noncomputable def o353 : Obj := { cls := .none, data := .func { name := "code", qualname := "DcFirstWriter.code", params := fArgs (sub 25 2), body := .stmts (fBody (sub 25 2)), scope := fScope (sub 25 2), globals := 0, closure := [], defaults := .none, kwdefaults := .none, doc := .none, pyModule := .none, annotations := none, code := .none, closureTuple := .none, builtins := 0 } }
noncomputable def o354 : Obj := { cls := .type "code", data := .fields #[.str "code" 654, .str "DcFirstWriter.code" 655, .str "/claim/cut.py" 656, .int 170 0, .int 3 0, .int 0 0, .int 0 0, .int 3 0, .ref 349, .bool true, .int 181 0, .ref 350, .none, .ref 351, .ref 352, .ref 353, .int 663 0, .int 170 0, .str "/claim/cut.py" 664] }
noncomputable def o355 : Obj := { cls := .type "function", data := .func (fnOf "code" "DcFirstWriter.code" (fArgs (sub 25 2)) (fBody (sub 25 2)) (fScope (sub 25 2)) .none .none .none (.str "pixelpress.progressive_dc" 622) none (.ref 354) .none) }
noncomputable def o358 : Obj := { cls := .type "tuple", data := .seq #[.str "self" 669] }
noncomputable def o360 : Obj := { cls := .none, data := .func { name := "finish", qualname := "DcFirstWriter.finish", params := fArgs (sub 25 3), body := .stmts (fBody (sub 25 3)), scope := fScope (sub 25 3), globals := 0, closure := [], defaults := .none, kwdefaults := .none, doc := .none, pyModule := .none, annotations := none, code := .none, closureTuple := .none, builtins := 0 } }
noncomputable def o361 : Obj := { cls := .type "code", data := .fields #[.str "finish" 666, .str "DcFirstWriter.finish" 667, .str "/claim/cut.py" 668, .int 179 0, .int 1 0, .int 0 0, .int 0 0, .int 3 0, .ref 356, .bool true, .int 181 0, .ref 357, .none, .ref 358, .ref 359, .ref 360, .int 670 0, .int 179 0, .str "/claim/cut.py" 671] }
noncomputable def o362 : Obj := { cls := .type "function", data := .func (fnOf "finish" "DcFirstWriter.finish" (fArgs (sub 25 3)) (fBody (sub 25 3)) (fScope (sub 25 3)) .none .none .none (.str "pixelpress.progressive_dc" 622) none (.ref 361) .none) }
noncomputable def o363 : Obj := { cls := .type "tuple", data := .seq #[.str "before" 673, .str "scan" 674, .str "sink" 675] }
noncomputable def o364 (P : Params) : Obj := { cls := .type "dict", data := .dict #[⟨PyData.keyHash P "__module__", .str "__module__" 633, .str "pixelpress.progressive_dc" 622⟩, ⟨PyData.keyHash P "__firstlineno__", .str "__firstlineno__" 637, .int 160 636⟩, ⟨PyData.keyHash P "__init__", .str "__init__" 646, .ref 341⟩, ⟨PyData.keyHash P "start", .str "start" 653, .ref 348⟩, ⟨PyData.keyHash P "code", .str "code" 665, .ref 355⟩, ⟨PyData.keyHash P "finish", .str "finish" 672, .ref 362⟩, ⟨PyData.keyHash P "__static_attributes__", .str "__static_attributes__" 676, .ref 363⟩, ⟨PyData.keyHash P "__dict__", .str "__dict__" 678, .ref 366⟩, ⟨PyData.keyHash P "__weakref__", .str "__weakref__" 680, .ref 367⟩, ⟨PyData.keyHash P "__doc__", .str "__doc__" 681, .none⟩] 4 }
noncomputable def o365 : Obj := { cls := .type "type", data := .cls { name := "DcFirstWriter", bases := [.type "object"], mro := [.ref 365, .type "object"], ns := 364, qualname := "DcFirstWriter", hasDict := true, slotNames := [], subclasses := [], abstract := false, collection := none, hasDel := false }, slots := #[none, none, some (.str "DcFirstWriter" 626), some (.str "DcFirstWriter" 634), some (.builtin "object.__new__"), some (.bool true)] }
noncomputable def o366 : Obj := { cls := .type "getset_descriptor", data := .fields #[.str "__dict__" 677, .ref 365, .builtin "function.__dict__", .builtin "function.__dict__#set"] }
noncomputable def o367 : Obj := { cls := .type "getset_descriptor", data := .fields #[.str "__weakref__" 679, .ref 365, .builtin "ExceptionGroup.__weakref__", .none] }
noncomputable def o368 : Obj := { cls := .type "super", data := .fields #[.ref 365, .ref 365, .ref 365] }
noncomputable def o369 : Obj := { cls := .type "builtin_function_or_method", data := .fields #[.builtin "object.__init_subclass__", .ref 365] }
noncomputable def o3_4 (P : Params) : Obj := { cls := .type "dict", data := .dict #[⟨PyData.keyHash P "__name__", .str "__name__" 165, .str "pixelpress.sequential" 799⟩, ⟨PyData.keyHash P "__doc__", .str "__doc__" 166, .none⟩, ⟨PyData.keyHash P "__package__", .str "__package__" 167, .none⟩, ⟨PyData.keyHash P "__loader__", .str "__loader__" 168, .builtin "__main__.__loader__#opaque"⟩, ⟨PyData.keyHash P "__spec__", .str "__spec__" 169, .none⟩, ⟨PyData.keyHash P "__annotations__", .str "__annotations__" 170, .ref 6⟩, ⟨PyData.keyHash P "__builtins__", .str "__builtins__" 171, .ref 4⟩, ⟨PyData.keyHash P "__file__", .str "__file__" 173, .str "/claim/cut.py" 172⟩, ⟨PyData.keyHash P "__cached__", .str "__cached__" 174, .none⟩, ⟨PyData.keyHash P "_wall", .str "_wall" 193, .ref 21⟩, ⟨PyData.keyHash P "DirectWriter", .str "DirectWriter" 249, .ref 59⟩, ⟨PyData.keyHash P "DirectReader", .str "DirectReader" 304, .ref 101⟩, ⟨PyData.keyHash P "PressError", .str "PressError" 335, .ref 122⟩, ⟨PyData.keyHash P "TableError", .str "TableError" 351, .ref 135⟩, ⟨PyData.keyHash P "CodeError", .str "CodeError" 367, .ref 147⟩, ⟨PyData.keyHash P "CutError", .str "CutError" 383, .ref 159⟩, ⟨PyData.keyHash P "RangeError", .str "RangeError" 399, .ref 171⟩, ⟨PyData.keyHash P "MOST_BITS", .str "MOST_BITS" 403, .int 16 402⟩, ⟨PyData.keyHash P "MOST_SYMBOLS", .str "MOST_SYMBOLS" 405, .int 256 404⟩, ⟨PyData.keyHash P "code_rows", .str "code_rows" 417, .ref 180⟩, ⟨PyData.keyHash P "check_told", .str "check_told" 427, .ref 187⟩, ⟨PyData.keyHash P "HuffTable", .str "HuffTable" 486, .ref 218⟩, ⟨PyData.keyHash P "BitWriter", .str "BitWriter" 541, .ref 260⟩, ⟨PyData.keyHash P "BitReader", .str "BitReader" 596, .ref 302⟩, ⟨PyData.keyHash P "category", .str "category" 605, .ref 313⟩, ⟨PyData.keyHash P "bits_of", .str "bits_of" 613, .ref 320⟩, ⟨PyData.keyHash P "value_of", .str "value_of" 621, .ref 327⟩, ⟨PyData.keyHash P "MOST_CATEGORY", .str "MOST_CATEGORY" 625, .int 15 624⟩, ⟨PyData.keyHash P "DcFirstWriter", .str "DcFirstWriter" 683, .ref 365⟩, ⟨PyData.keyHash P "DcFirstReader", .str "DcFirstReader" 741, .ref 407⟩, ⟨PyData.keyHash P "Scan", .str "Scan" 798, .ref 442⟩, ⟨PyData.keyHash P "ZEROS", .str "ZEROS" 802, .int 240 801⟩, ⟨PyData.keyHash P "MOST_SIZE", .str "MOST_SIZE" 804, .int 15 803⟩, ⟨PyData.keyHash P "put_number", .str "put_number" 815, .ref 453⟩] 34 }
noncomputable def o12_5 : Obj := { cls := .none, data := .fields #[.int 1 0, .int 0 0, .ref 20, .int 5 0, .int 0 0, .ref 27, .int 20 0, .int 0 0, .ref 69, .int 36 0, .int 0 0, .ref 111, .int 41 0, .int 0 0, .ref 131, .int 43 0, .int 0 0, .ref 143, .int 45 0, .int 0 0, .ref 155, .int 47 0, .int 0 0, .ref 167, .int 52 0, .int 0 0, .ref 179, .int 64 0, .int 0 0, .ref 186, .int 74 0, .int 0 0, .ref 193, .int 101 0, .int 0 0, .ref 228, .int 124 0, .int 0 0, .ref 270, .int 148 0, .int 0 0, .ref 312, .int 150 0, .int 0 0, .ref 319, .int 154 0, .int 0 0, .ref 326, .int 160 0, .int 0 0, .ref 333, .int 181 0, .int 0 0, .ref 375, .int 204 0, .int 0 0, .ref 417, .int 223 0, .int 0 0, .ref 452] }
noncomputable def o372 (P : Params) : Obj := { cls := .type "dict", data := .dict #[⟨PyData.keyHash P "__module__", .str "__module__" 691, .str "pixelpress.progressive_dc" 622⟩, ⟨PyData.keyHash P "__qualname__", .str "__qualname__" 693, .str "DcFirstReader" 692⟩, ⟨PyData.keyHash P "__firstlineno__", .str "__firstlineno__" 695, .int 181 694⟩, ⟨PyData.keyHash P "__init__", .str "__init__" 704, .ref 383⟩, ⟨PyData.keyHash P "start", .str "start" 712, .ref 390⟩, ⟨PyData.keyHash P "read", .str "read" 722, .ref 397⟩, ⟨PyData.keyHash P "finish", .str "finish" 729, .ref 404⟩, ⟨PyData.keyHash P "__static_attributes__", .str "__static_attributes__" 734, .ref 405⟩] 8 }
noncomputable def o374 : Obj := { cls := .none, data := .fields #[.int 183 0, .int 4 0, .ref 382, .int 189 0, .int 4 0, .ref 389, .int 193 0, .int 4 0, .ref 396, .int 201 0, .int 4 0, .ref 403] }
noncomputable def o375 : Obj := { cls := .type "code", data := .fields #[.str "DcFirstReader" 686, .str "DcFirstReader" 687, .str "/claim/cut.py" 688, .int 181 0, .int 0 0, .int 0 0, .int 0 0, .int 0 0, .ref 373, .bool false, .int 181 0, .ref 374, .none, .none, .none, .none, .int 689 0, .int 181 0, .str "/claim/cut.py" 690] }
noncomputable def o376 : Obj := { cls := .type "frame", slots := #[some (.ref 375), some (.ref 3), some (.ref 372), none, some (.str "pixelpress.progressive_dc" 622), none, some (.ref 0)] }
noncomputable def o379 : Obj := { cls := .type "tuple", data := .seq #[.str "self" 699, .str "scan" 700, .str "tables" 701] }
noncomputable def o381 : Obj := { cls := .none, data := .func { name := "__init__", qualname := "DcFirstReader.__init__", params := fArgs (sub 26 0), body := .stmts (fBody (sub 26 0)), scope := fScope (sub 26 0), globals := 0, closure := [], defaults := .none, kwdefaults := .none, doc := .none, pyModule := .none, annotations := none, code := .none, closureTuple := .none, builtins := 0 } }
noncomputable def o382 : Obj := { cls := .type "code", data := .fields #[.str "__init__" 696, .str "DcFirstReader.__init__" 697, .str "/claim/cut.py" 698, .int 183 0, .int 3 0, .int 0 0, .int 0 0, .int 3 0, .ref 377, .bool true, .int 181 0, .ref 378, .none, .ref 379, .ref 380, .ref 381, .int 702 0, .int 183 0, .str "/claim/cut.py" 703] }
noncomputable def o383 : Obj := { cls := .type "function", data := .func (fnOf "__init__" "DcFirstReader.__init__" (fArgs (sub 26 0)) (fBody (sub 26 0)) (fScope (sub 26 0)) .none .none .none (.str "pixelpress.progressive_dc" 622) none (.ref 382) .none) }
noncomputable def o386 : Obj := { cls := .type "tuple", data := .seq #[.str "self" 708, .str "octets" 709] }
noncomputable def o388 : Obj := { cls := .none, data := .func { name := "start", qualname := "DcFirstReader.start", params := fArgs (sub 26 1), body := .stmts (fBody (sub 26 1)), scope := fScope (sub 26 1), globals := 0, closure := [], defaults := .none, kwdefaults := .none, doc := .none, pyModule := .none, annotations := none, code := .none, closureTuple := .none, builtins := 0 } }
noncomputable def o389 : Obj := { cls := .type "code", data := .fields #[.str "start" 705, .str "DcFirstReader.start" 706, .str "/claim/cut.py" 707, .int 189 0, .int 2 0, .int 0 0, .int 0 0, .int 3 0, .ref 384, .bool true, .int 181 0, .ref 385, .none, .ref 386, .ref 387, .ref 388, .int 710 0, .int 189 0, .str "/claim/cut.py" 711] }
noncomputable def o390 : Obj := { cls := .type "function", data := .func (fnOf "start" "DcFirstReader.start" (fArgs (sub 26 1)) (fBody (sub 26 1)) (fScope (sub 26 1)) .none .none .none (.str "pixelpress.progressive_dc" 622) none (.ref 389) .none) }
noncomputable def o393 : Obj := { cls := .type "tuple", data := .seq #[.str "self" 716, .str "place" 717, .str "row" 718, .str "size" 719] }
noncomputable def o395 : Obj := { cls := .none, data := .func { name := "read", qualname := "DcFirstReader.read", params := fArgs (sub 26 2), body := .stmts (fBody (sub 26 2)), scope := fScope (sub 26 2), globals := 0, closure := [], defaults := .none, kwdefaults := .none, doc := .none, pyModule := .none, annotations := none, code := .none, closureTuple := .none, builtins := 0 } }
noncomputable def o396 : Obj := { cls := .type "code", data := .fields #[.str "read" 713, .str "DcFirstReader.read" 714, .str "/claim/cut.py" 715, .int 193 0, .int 3 0, .int 0 0, .int 0 0, .int 3 0, .ref 391, .bool true, .int 181 0, .ref 392, .none, .ref 393, .ref 394, .ref 395, .int 720 0, .int 193 0, .str "/claim/cut.py" 721] }
noncomputable def o397 : Obj := { cls := .type "function", data := .func (fnOf "read" "DcFirstReader.read" (fArgs (sub 26 2)) (fBody (sub 26 2)) (fScope (sub 26 2)) .none .none .none (.str "pixelpress.progressive_dc" 622) none (.ref 396) .none) }
noncomputable def o400 : Obj := { cls := .type "tuple", data := .seq #[.str "self" 726] }
noncomputable def o402 : Obj := { cls := .none, data := .func { name := "finish", qualname := "DcFirstReader.finish", params := fArgs (sub 26 3), body := .stmts (fBody (sub 26 3)), scope := fScope (sub 26 3), globals := 0, closure := [], defaults := .none, kwdefaults := .none, doc := .none, pyModule := .none, annotations := none, code := .none, closureTuple := .none, builtins := 0 } }
noncomputable def o403 : Obj := { cls := .type "code", data := .fields #[.str "finish" 723, .str "DcFirstReader.finish" 724, .str "/claim/cut.py" 725, .int 201 0, .int 1 0, .int 0 0, .int 0 0, .int 3 0, .ref 398, .bool true, .int 181 0, .ref 399, .none, .ref 400, .ref 401, .ref 402, .int 727 0, .int 201 0, .str "/claim/cut.py" 728] }
noncomputable def o404 : Obj := { cls := .type "function", data := .func (fnOf "finish" "DcFirstReader.finish" (fArgs (sub 26 3)) (fBody (sub 26 3)) (fScope (sub 26 3)) .none .none .none (.str "pixelpress.progressive_dc" 622) none (.ref 403) .none) }
noncomputable def o405 : Obj := { cls := .type "tuple", data := .seq #[.str "before" 730, .str "reader" 731, .str "scan" 732, .str "tables" 733] }
noncomputable def o406 (P : Params) : Obj := { cls := .type "dict", data := .dict #[⟨PyData.keyHash P "__module__", .str "__module__" 691, .str "pixelpress.progressive_dc" 622⟩, ⟨PyData.keyHash P "__firstlineno__", .str "__firstlineno__" 695, .int 181 694⟩, ⟨PyData.keyHash P "__init__", .str "__init__" 704, .ref 383⟩, ⟨PyData.keyHash P "start", .str "start" 712, .ref 390⟩, ⟨PyData.keyHash P "read", .str "read" 722, .ref 397⟩, ⟨PyData.keyHash P "finish", .str "finish" 729, .ref 404⟩, ⟨PyData.keyHash P "__static_attributes__", .str "__static_attributes__" 734, .ref 405⟩, ⟨PyData.keyHash P "__dict__", .str "__dict__" 736, .ref 408⟩, ⟨PyData.keyHash P "__weakref__", .str "__weakref__" 738, .ref 409⟩, ⟨PyData.keyHash P "__doc__", .str "__doc__" 739, .none⟩] 4 }
noncomputable def o407 : Obj := { cls := .type "type", data := .cls { name := "DcFirstReader", bases := [.type "object"], mro := [.ref 407, .type "object"], ns := 406, qualname := "DcFirstReader", hasDict := true, slotNames := [], subclasses := [], abstract := false, collection := none, hasDel := false }, slots := #[none, none, some (.str "DcFirstReader" 684), some (.str "DcFirstReader" 692), some (.builtin "object.__new__"), some (.bool true)] }
noncomputable def o408 : Obj := { cls := .type "getset_descriptor", data := .fields #[.str "__dict__" 735, .ref 407, .builtin "function.__dict__", .builtin "function.__dict__#set"] }
noncomputable def o409 : Obj := { cls := .type "getset_descriptor", data := .fields #[.str "__weakref__" 737, .ref 407, .builtin "ExceptionGroup.__weakref__", .none] }
noncomputable def o410 : Obj := { cls := .type "super", data := .fields #[.ref 407, .ref 407, .ref 407] }
noncomputable def o411 : Obj := { cls := .type "builtin_function_or_method", data := .fields #[.builtin "object.__init_subclass__", .ref 407] }
noncomputable def o414 (P : Params) : Obj := { cls := .type "dict", data := .dict #[⟨PyData.keyHash P "__module__", .str "__module__" 751, .str "pixelpress.scans" 742⟩, ⟨PyData.keyHash P "__qualname__", .str "__qualname__" 753, .str "Scan" 752⟩, ⟨PyData.keyHash P "__firstlineno__", .str "__firstlineno__" 755, .int 204 754⟩, ⟨PyData.keyHash P "__init__", .str "__init__" 769, .ref 425⟩, ⟨PyData.keyHash P "is_alone", .str "is_alone" 776, .ref 432⟩, ⟨PyData.keyHash P "is_finer", .str "is_finer" 783, .ref 439⟩, ⟨PyData.keyHash P "__static_attributes__", .str "__static_attributes__" 791, .ref 440⟩] 7 }
noncomputable def o416 : Obj := { cls := .none, data := .fields #[.int 206 0, .int 4 0, .ref 424, .int 215 0, .int 4 0, .ref 431, .int 218 0, .int 4 0, .ref 438] }
noncomputable def o417 : Obj := { cls := .type "code", data := .fields #[.str "Scan" 746, .str "Scan" 747, .str "/claim/cut.py" 748, .int 204 0, .int 0 0, .int 0 0, .int 0 0, .int 0 0, .ref 415, .bool false, .int 181 0, .ref 416, .none, .none, .none, .none, .int 749 0, .int 204 0, .str "/claim/cut.py" 750] }
noncomputable def o418 : Obj := { cls := .type "frame", slots := #[some (.ref 417), some (.ref 3), some (.ref 414), none, some (.str "pixelpress.scans" 742), none, some (.ref 0)] }
noncomputable def o421 : Obj := { cls := .type "tuple", data := .seq #[.str "self" 759, .str "places" 760, .str "dc_slots" 761, .str "ac_slots" 762, .str "start" 763, .str "end" 764, .str "high" 765, .str "low" 766] }
noncomputable def o423 : Obj := { cls := .none, data := .func { name := "__init__", qualname := "Scan.__init__", params := fArgs (sub 28 0), body := .stmts (fBody (sub 28 0)), scope := fScope (sub 28 0), globals := 0, closure := [], defaults := .none, kwdefaults := .none, doc := .none, pyModule := .none, annotations := none, code := .none, closureTuple := .none, builtins := 0 } }
noncomputable def o424 : Obj := { cls := .type "code", data := .fields #[.str "__init__" 756, .str "Scan.__init__" 757, .str "/claim/cut.py" 758, .int 206 0, .int 8 0, .int 0 0, .int 0 0, .int 3 0, .ref 419, .bool true, .int 181 0, .ref 420, .none, .ref 421, .ref 422, .ref 423, .int 767 0, .int 206 0, .str "/claim/cut.py" 768] }
noncomputable def o425 : Obj := { cls := .type "function", data := .func (fnOf "__init__" "Scan.__init__" (fArgs (sub 28 0)) (fBody (sub 28 0)) (fScope (sub 28 0)) .none .none .none (.str "pixelpress.scans" 742) none (.ref 424) .none) }
noncomputable def o428 : Obj := { cls := .type "tuple", data := .seq #[.str "self" 773] }
noncomputable def o430 : Obj := { cls := .none, data := .func { name := "is_alone", qualname := "Scan.is_alone", params := fArgs (sub 28 1), body := .stmts (fBody (sub 28 1)), scope := fScope (sub 28 1), globals := 0, closure := [], defaults := .none, kwdefaults := .none, doc := .none, pyModule := .none, annotations := none, code := .none, closureTuple := .none, builtins := 0 } }
noncomputable def o431 : Obj := { cls := .type "code", data := .fields #[.str "is_alone" 770, .str "Scan.is_alone" 771, .str "/claim/cut.py" 772, .int 215 0, .int 1 0, .int 0 0, .int 0 0, .int 3 0, .ref 426, .bool true, .int 181 0, .ref 427, .none, .ref 428, .ref 429, .ref 430, .int 774 0, .int 215 0, .str "/claim/cut.py" 775] }
noncomputable def o432 : Obj := { cls := .type "function", data := .func (fnOf "is_alone" "Scan.is_alone" (fArgs (sub 28 1)) (fBody (sub 28 1)) (fScope (sub 28 1)) .none .none .none (.str "pixelpress.scans" 742) none (.ref 431) .none) }
noncomputable def o435 : Obj := { cls := .type "tuple", data := .seq #[.str "self" 780] }
noncomputable def o437 : Obj := { cls := .none, data := .func { name := "is_finer", qualname := "Scan.is_finer", params := fArgs (sub 28 2), body := .stmts (fBody (sub 28 2)), scope := fScope (sub 28 2), globals := 0, closure := [], defaults := .none, kwdefaults := .none, doc := .none, pyModule := .none, annotations := none, code := .none, closureTuple := .none, builtins := 0 } }
noncomputable def o438 : Obj := { cls := .type "code", data := .fields #[.str "is_finer" 777, .str "Scan.is_finer" 778, .str "/claim/cut.py" 779, .int 218 0, .int 1 0, .int 0 0, .int 0 0, .int 3 0, .ref 433, .bool true, .int 181 0, .ref 434, .none, .ref 435, .ref 436, .ref 437, .int 781 0, .int 218 0, .str "/claim/cut.py" 782] }
noncomputable def o439 : Obj := { cls := .type "function", data := .func (fnOf "is_finer" "Scan.is_finer" (fArgs (sub 28 2)) (fBody (sub 28 2)) (fScope (sub 28 2)) .none .none .none (.str "pixelpress.scans" 742) none (.ref 438) .none) }
noncomputable def o440 : Obj := { cls := .type "tuple", data := .seq #[.str "ac_slots" 784, .str "dc_slots" 785, .str "end" 786, .str "high" 787, .str "low" 788, .str "places" 789, .str "start" 790] }
noncomputable def o441 (P : Params) : Obj := { cls := .type "dict", data := .dict #[⟨PyData.keyHash P "__module__", .str "__module__" 751, .str "pixelpress.scans" 742⟩, ⟨PyData.keyHash P "__firstlineno__", .str "__firstlineno__" 755, .int 204 754⟩, ⟨PyData.keyHash P "__init__", .str "__init__" 769, .ref 425⟩, ⟨PyData.keyHash P "is_alone", .str "is_alone" 776, .ref 432⟩, ⟨PyData.keyHash P "is_finer", .str "is_finer" 783, .ref 439⟩, ⟨PyData.keyHash P "__static_attributes__", .str "__static_attributes__" 791, .ref 440⟩, ⟨PyData.keyHash P "__dict__", .str "__dict__" 793, .ref 443⟩, ⟨PyData.keyHash P "__weakref__", .str "__weakref__" 795, .ref 444⟩, ⟨PyData.keyHash P "__doc__", .str "__doc__" 796, .none⟩] 4 }
noncomputable def o442 : Obj := { cls := .type "type", data := .cls { name := "Scan", bases := [.type "object"], mro := [.ref 442, .type "object"], ns := 441, qualname := "Scan", hasDict := true, slotNames := [], subclasses := [], abstract := false, collection := none, hasDel := false }, slots := #[none, none, some (.str "Scan" 744), some (.str "Scan" 752), some (.builtin "object.__new__"), some (.bool true)] }
noncomputable def o443 : Obj := { cls := .type "getset_descriptor", data := .fields #[.str "__dict__" 792, .ref 442, .builtin "function.__dict__", .builtin "function.__dict__#set"] }
noncomputable def o444 : Obj := { cls := .type "getset_descriptor", data := .fields #[.str "__weakref__" 794, .ref 442, .builtin "ExceptionGroup.__weakref__", .none] }
noncomputable def o445 : Obj := { cls := .type "super", data := .fields #[.ref 442, .ref 442, .ref 442] }
noncomputable def o446 : Obj := { cls := .type "builtin_function_or_method", data := .fields #[.builtin "object.__init_subclass__", .ref 442] }
noncomputable def o449 : Obj := { cls := .type "tuple", data := .seq #[.str "sink" 808, .str "key" 809, .str "run" 810, .str "v" 811, .str "size" 812] }
noncomputable def o451 : Obj := { cls := .none, data := .func { name := "put_number", qualname := "put_number", params := fArgs (stm 32), body := .stmts (fBody (stm 32)), scope := fScope (stm 32), globals := 0, closure := [], defaults := .none, kwdefaults := .none, doc := .none, pyModule := .none, annotations := none, code := .none, closureTuple := .none, builtins := 0 } }
noncomputable def o452 : Obj := { cls := .type "code", data := .fields #[.str "put_number" 805, .str "put_number" 806, .str "/claim/cut.py" 807, .int 223 0, .int 4 0, .int 0 0, .int 0 0, .int 3 0, .ref 447, .bool true, .int 181 0, .ref 448, .none, .ref 449, .ref 450, .ref 451, .int 813 0, .int 223 0, .str "/claim/cut.py" 814] }
noncomputable def o453 : Obj := { cls := .type "function", data := .func (fnOf "put_number" "put_number" (fArgs (stm 32)) (fBody (stm 32)) (fScope (stm 32)) .none .none .none (.str "pixelpress.sequential" 799) none (.ref 452) .none) }
noncomputable def o3_5 (P : Params) : Obj := { cls := .type "dict", data := .dict #[⟨PyData.keyHash P "__name__", .str "__name__" 165, .str "pixelpress.sinks" 949⟩, ⟨PyData.keyHash P "__doc__", .str "__doc__" 166, .none⟩, ⟨PyData.keyHash P "__package__", .str "__package__" 167, .none⟩, ⟨PyData.keyHash P "__loader__", .str "__loader__" 168, .builtin "__main__.__loader__#opaque"⟩, ⟨PyData.keyHash P "__spec__", .str "__spec__" 169, .none⟩, ⟨PyData.keyHash P "__annotations__", .str "__annotations__" 170, .ref 6⟩, ⟨PyData.keyHash P "__builtins__", .str "__builtins__" 171, .ref 4⟩, ⟨PyData.keyHash P "__file__", .str "__file__" 173, .str "/claim/cut.py" 172⟩, ⟨PyData.keyHash P "__cached__", .str "__cached__" 174, .none⟩, ⟨PyData.keyHash P "_wall", .str "_wall" 193, .ref 21⟩, ⟨PyData.keyHash P "DirectWriter", .str "DirectWriter" 249, .ref 59⟩, ⟨PyData.keyHash P "DirectReader", .str "DirectReader" 304, .ref 101⟩, ⟨PyData.keyHash P "PressError", .str "PressError" 335, .ref 122⟩, ⟨PyData.keyHash P "TableError", .str "TableError" 351, .ref 135⟩, ⟨PyData.keyHash P "CodeError", .str "CodeError" 367, .ref 147⟩, ⟨PyData.keyHash P "CutError", .str "CutError" 383, .ref 159⟩, ⟨PyData.keyHash P "RangeError", .str "RangeError" 399, .ref 171⟩, ⟨PyData.keyHash P "MOST_BITS", .str "MOST_BITS" 403, .int 16 402⟩, ⟨PyData.keyHash P "MOST_SYMBOLS", .str "MOST_SYMBOLS" 405, .int 256 404⟩, ⟨PyData.keyHash P "code_rows", .str "code_rows" 417, .ref 180⟩, ⟨PyData.keyHash P "check_told", .str "check_told" 427, .ref 187⟩, ⟨PyData.keyHash P "HuffTable", .str "HuffTable" 486, .ref 218⟩, ⟨PyData.keyHash P "BitWriter", .str "BitWriter" 541, .ref 260⟩, ⟨PyData.keyHash P "BitReader", .str "BitReader" 596, .ref 302⟩, ⟨PyData.keyHash P "category", .str "category" 605, .ref 313⟩, ⟨PyData.keyHash P "bits_of", .str "bits_of" 613, .ref 320⟩, ⟨PyData.keyHash P "value_of", .str "value_of" 621, .ref 327⟩, ⟨PyData.keyHash P "MOST_CATEGORY", .str "MOST_CATEGORY" 625, .int 15 624⟩, ⟨PyData.keyHash P "DcFirstWriter", .str "DcFirstWriter" 683, .ref 365⟩, ⟨PyData.keyHash P "DcFirstReader", .str "DcFirstReader" 741, .ref 407⟩, ⟨PyData.keyHash P "Scan", .str "Scan" 798, .ref 442⟩, ⟨PyData.keyHash P "ZEROS", .str "ZEROS" 802, .int 240 801⟩, ⟨PyData.keyHash P "MOST_SIZE", .str "MOST_SIZE" 804, .int 15 803⟩, ⟨PyData.keyHash P "put_number", .str "put_number" 815, .ref 453⟩, ⟨PyData.keyHash P "SequentialWriter", .str "SequentialWriter" 875, .ref 491⟩, ⟨PyData.keyHash P "SequentialReader", .str "SequentialReader" 948, .ref 540⟩, ⟨PyData.keyHash P "CodeSink", .str "CodeSink" 1008, .ref 582⟩] 37 }
noncomputable def o12_6 : Obj := { cls := .none, data := .fields #[.int 1 0, .int 0 0, .ref 20, .int 5 0, .int 0 0, .ref 27, .int 20 0, .int 0 0, .ref 69, .int 36 0, .int 0 0, .ref 111, .int 41 0, .int 0 0, .ref 131, .int 43 0, .int 0 0, .ref 143, .int 45 0, .int 0 0, .ref 155, .int 47 0, .int 0 0, .ref 167, .int 52 0, .int 0 0, .ref 179, .int 64 0, .int 0 0, .ref 186, .int 74 0, .int 0 0, .ref 193, .int 101 0, .int 0 0, .ref 228, .int 124 0, .int 0 0, .ref 270, .int 148 0, .int 0 0, .ref 312, .int 150 0, .int 0 0, .ref 319, .int 154 0, .int 0 0, .ref 326, .int 160 0, .int 0 0, .ref 333, .int 181 0, .int 0 0, .ref 375, .int 204 0, .int 0 0, .ref 417, .int 223 0, .int 0 0, .ref 452, .int 229 0, .int 0 0, .ref 459, .int 259 0, .int 0 0, .ref 501, .int 303 0, .int 0 0, .ref 550] }
noncomputable def o456 (P : Params) : Obj := { cls := .type "dict", data := .dict #[⟨PyData.keyHash P "__module__", .str "__module__" 823, .str "pixelpress.sequential" 799⟩, ⟨PyData.keyHash P "__qualname__", .str "__qualname__" 825, .str "SequentialWriter" 824⟩, ⟨PyData.keyHash P "__firstlineno__", .str "__firstlineno__" 827, .int 229 826⟩, ⟨PyData.keyHash P "__init__", .str "__init__" 837, .ref 467⟩, ⟨PyData.keyHash P "start", .str "start" 844, .ref 474⟩, ⟨PyData.keyHash P "code", .str "code" 856, .ref 481⟩, ⟨PyData.keyHash P "finish", .str "finish" 863, .ref 488⟩, ⟨PyData.keyHash P "__static_attributes__", .str "__static_attributes__" 868, .ref 489⟩] 8 }
noncomputable def o458 : Obj := { cls := .none, data := .fields #[.int 231 0, .int 4 0, .ref 466, .int 237 0, .int 4 0, .ref 473, .int 240 0, .int 4 0, .ref 480, .int 257 0, .int 4 0, .ref 487] }
noncomputable def o459 : Obj := { cls := .type "code", data := .fields #[.str "SequentialWriter" 818, .str "SequentialWriter" 819, .str "/claim/cut.py" 820, .int 229 0, .int 0 0, .int 0 0, .int 0 0, .int 0 0, .ref 457, .bool false, .int 181 0, .ref 458, .none, .none, .none, .none, .int 821 0, .int 229 0, .str "/claim/cut.py" 822] }
noncomputable def o460 : Obj := { cls := .type "frame", slots := #[some (.ref 459), some (.ref 3), some (.ref 456), none, some (.str "pixelpress.sequential" 799), none, some (.ref 0)] }
noncomputable def o463 : Obj := { cls := .type "tuple", data := .seq #[.str "self" 831, .str "scan" 832, .str "n" 833, .str "sink" 834] }
noncomputable def o465 : Obj := { cls := .none, data := .func { name := "__init__", qualname := "SequentialWriter.__init__", params := fArgs (sub 33 0), body := .stmts (fBody (sub 33 0)), scope := fScope (sub 33 0), globals := 0, closure := [], defaults := .none, kwdefaults := .none, doc := .none, pyModule := .none, annotations := none, code := .none, closureTuple := .none, builtins := 0 } }
noncomputable def o466 : Obj := { cls := .type "code", data := .fields #[.str "__init__" 828, .str "SequentialWriter.__init__" 829, .str "/claim/cut.py" 830, .int 231 0, .int 4 0, .int 0 0, .int 0 0, .int 3 0, .ref 461, .bool true, .int 181 0, .ref 462, .none, .ref 463, .ref 464, .ref 465, .int 835 0, .int 231 0, .str "/claim/cut.py" 836] }
noncomputable def o467 : Obj := { cls := .type "function", data := .func (fnOf "__init__" "SequentialWriter.__init__" (fArgs (sub 33 0)) (fBody (sub 33 0)) (fScope (sub 33 0)) .none .none .none (.str "pixelpress.sequential" 799) none (.ref 466) .none) }
noncomputable def o470 : Obj := { cls := .type "tuple", data := .seq #[.str "self" 841] }
noncomputable def o472 : Obj := { cls := .none, data := .func { name := "start", qualname := "SequentialWriter.start", params := fArgs (sub 33 1), body := .stmts (fBody (sub 33 1)), scope := fScope (sub 33 1), globals := 0, closure := [], defaults := .none, kwdefaults := .none, doc := .none, pyModule := .none, annotations := none, code := .none, closureTuple := .none, builtins := 0 } }
noncomputable def o473 : Obj := { cls := .type "code", data := .fields #[.str "start" 838, .str "SequentialWriter.start" 839, .str "/claim/cut.py" 840, .int 237 0, .int 1 0, .int 0 0, .int 0 0, .int 3 0, .ref 468, .bool true, .int 181 0, .ref 469, .none, .ref 470, .ref 471, .ref 472, .int 842 0, .int 237 0, .str "/claim/cut.py" 843] }
noncomputable def o474 : Obj := { cls := .type "function", data := .func (fnOf "start" "SequentialWriter.start" (fArgs (sub 33 1)) (fBody (sub 33 1)) (fScope (sub 33 1)) .none .none .none (.str "pixelpress.sequential" 799) none (.ref 473) .none) }
noncomputable def o477 : Obj := { cls := .type "tuple", data := .seq #[.str "self" 848, .str "place" 849, .str "row" 850, .str "key" 851, .str "run" 852, .str "k" 853] }
noncomputable def o479 : Obj := { cls := .none, data := .func { name := "code", qualname := "SequentialWriter.code", params := fArgs (sub 33 2), body := .stmts (fBody (sub 33 2)), scope := fScope (sub 33 2), globals := 0, closure := [], defaults := .none, kwdefaults := .none, doc := .none, pyModule := .none, annotations := none, code := .none, closureTuple := .none, builtins := 0 } }
noncomputable def o480 : Obj := { cls := .type "code", data := .fields #[.str "code" 845, .str "SequentialWriter.code" 846, .str "/claim/cut.py" 847, .int 240 0, .int 3 0, .int 0 0, .int 0 0, .int 3 0, .ref 475, .bool true, .int 181 0, .ref 476, .none, .ref 477, .ref 478, .ref 479, .int 854 0, .int 240 0, .str "/claim/cut.py" 855] }
noncomputable def o481 : Obj := { cls := .type "function", data := .func (fnOf "code" "SequentialWriter.code" (fArgs (sub 33 2)) (fBody (sub 33 2)) (fScope (sub 33 2)) .none .none .none (.str "pixelpress.sequential" 799) none (.ref 480) .none) }
noncomputable def o484 : Obj := { cls := .type "tuple", data := .seq #[.str "self" 860] }
noncomputable def o486 : Obj := { cls := .none, data := .func { name := "finish", qualname := "SequentialWriter.finish", params := fArgs (sub 33 3), body := .stmts (fBody (sub 33 3)), scope := fScope (sub 33 3), globals := 0, closure := [], defaults := .none, kwdefaults := .none, doc := .none, pyModule := .none, annotations := none, code := .none, closureTuple := .none, builtins := 0 } }
noncomputable def o487 : Obj := { cls := .type "code", data := .fields #[.str "finish" 857, .str "SequentialWriter.finish" 858, .str "/claim/cut.py" 859, .int 257 0, .int 1 0, .int 0 0, .int 0 0, .int 3 0, .ref 482, .bool true, .int 181 0, .ref 483, .none, .ref 484, .ref 485, .ref 486, .int 861 0, .int 257 0, .str "/claim/cut.py" 862] }
noncomputable def o488 : Obj := { cls := .type "function", data := .func (fnOf "finish" "SequentialWriter.finish" (fArgs (sub 33 3)) (fBody (sub 33 3)) (fScope (sub 33 3)) .none .none .none (.str "pixelpress.sequential" 799) none (.ref 487) .none) }
noncomputable def o489 : Obj := { cls := .type "tuple", data := .seq #[.str "before" 864, .str "many" 865, .str "scan" 866, .str "sink" 867] }
noncomputable def o490 (P : Params) : Obj := { cls := .type "dict", data := .dict #[⟨PyData.keyHash P "__module__", .str "__module__" 823, .str "pixelpress.sequential" 799⟩, ⟨PyData.keyHash P "__firstlineno__", .str "__firstlineno__" 827, .int 229 826⟩, ⟨PyData.keyHash P "__init__", .str "__init__" 837, .ref 467⟩, ⟨PyData.keyHash P "start", .str "start" 844, .ref 474⟩, ⟨PyData.keyHash P "code", .str "code" 856, .ref 481⟩, ⟨PyData.keyHash P "finish", .str "finish" 863, .ref 488⟩, ⟨PyData.keyHash P "__static_attributes__", .str "__static_attributes__" 868, .ref 489⟩, ⟨PyData.keyHash P "__dict__", .str "__dict__" 870, .ref 492⟩, ⟨PyData.keyHash P "__weakref__", .str "__weakref__" 872, .ref 493⟩, ⟨PyData.keyHash P "__doc__", .str "__doc__" 873, .none⟩] 4 }
noncomputable def o491 : Obj := { cls := .type "type", data := .cls { name := "SequentialWriter", bases := [.type "object"], mro := [.ref 491, .type "object"], ns := 490, qualname := "SequentialWriter", hasDict := true, slotNames := [], subclasses := [], abstract := false, collection := none, hasDel := false }, slots := #[none, none, some (.str "SequentialWriter" 816), some (.str "SequentialWriter" 824), some (.builtin "object.__new__"), some (.bool true)] }
noncomputable def o492 : Obj := { cls := .type "getset_descriptor", data := .fields #[.str "__dict__" 869, .ref 491, .builtin "function.__dict__", .builtin "function.__dict__#set"] }
noncomputable def o493 : Obj := { cls := .type "getset_descriptor", data := .fields #[.str "__weakref__" 871, .ref 491, .builtin "ExceptionGroup.__weakref__", .none] }
noncomputable def o494 : Obj := { cls := .type "super", data := .fields #[.ref 491, .ref 491, .ref 491] }
noncomputable def o495 : Obj := { cls := .type "builtin_function_or_method", data := .fields #[.builtin "object.__init_subclass__", .ref 491] }
noncomputable def o498 (P : Params) : Obj := { cls := .type "dict", data := .dict #[⟨PyData.keyHash P "__module__", .str "__module__" 883, .str "pixelpress.sequential" 799⟩, ⟨PyData.keyHash P "__qualname__", .str "__qualname__" 885, .str "SequentialReader" 884⟩, ⟨PyData.keyHash P "__firstlineno__", .str "__firstlineno__" 887, .int 259 886⟩, ⟨PyData.keyHash P "__init__", .str "__init__" 897, .ref 509⟩, ⟨PyData.keyHash P "start", .str "start" 905, .ref 516⟩, ⟨PyData.keyHash P "number", .str "number" 913, .ref 523⟩, ⟨PyData.keyHash P "read", .str "read" 928, .ref 530⟩, ⟨PyData.keyHash P "finish", .str "finish" 935, .ref 537⟩, ⟨PyData.keyHash P "__static_attributes__", .str "__static_attributes__" 941, .ref 538⟩] 9 }
noncomputable def o500 : Obj := { cls := .none, data := .fields #[.int 261 0, .int 4 0, .ref 508, .int 268 0, .int 4 0, .ref 515, .int 272 0, .int 4 0, .ref 522, .int 275 0, .int 4 0, .ref 529, .int 299 0, .int 4 0, .ref 536] }
noncomputable def o501 : Obj := { cls := .type "code", data := .fields #[.str "SequentialReader" 878, .str "SequentialReader" 879, .str "/claim/cut.py" 880, .int 259 0, .int 0 0, .int 0 0, .int 0 0, .int 0 0, .ref 499, .bool false, .int 181 0, .ref 500, .none, .none, .none, .none, .int 881 0, .int 259 0, .str "/claim/cut.py" 882] }
noncomputable def o502 : Obj := { cls := .type "frame", slots := #[some (.ref 501), some (.ref 3), some (.ref 498), none, some (.str "pixelpress.sequential" 799), none, some (.ref 0)] }
noncomputable def o505 : Obj := { cls := .type "tuple", data := .seq #[.str "self" 891, .str "scan" 892, .str "n" 893, .str "tables" 894] }
noncomputable def o507 : Obj := { cls := .none, data := .func { name := "__init__", qualname := "SequentialReader.__init__", params := fArgs (sub 34 0), body := .stmts (fBody (sub 34 0)), scope := fScope (sub 34 0), globals := 0, closure := [], defaults := .none, kwdefaults := .none, doc := .none, pyModule := .none, annotations := none, code := .none, closureTuple := .none, builtins := 0 } }
noncomputable def o508 : Obj := { cls := .type "code", data := .fields #[.str "__init__" 888, .str "SequentialReader.__init__" 889, .str "/claim/cut.py" 890, .int 261 0, .int 4 0, .int 0 0, .int 0 0, .int 3 0, .ref 503, .bool true, .int 181 0, .ref 504, .none, .ref 505, .ref 506, .ref 507, .int 895 0, .int 261 0, .str "/claim/cut.py" 896] }
noncomputable def o509 : Obj := { cls := .type "function", data := .func (fnOf "__init__" "SequentialReader.__init__" (fArgs (sub 34 0)) (fBody (sub 34 0)) (fScope (sub 34 0)) .none .none .none (.str "pixelpress.sequential" 799) none (.ref 508) .none) }
noncomputable def o512 : Obj := { cls := .type "tuple", data := .seq #[.str "self" 901, .str "octets" 902] }
noncomputable def o514 : Obj := { cls := .none, data := .func { name := "start", qualname := "SequentialReader.start", params := fArgs (sub 34 1), body := .stmts (fBody (sub 34 1)), scope := fScope (sub 34 1), globals := 0, closure := [], defaults := .none, kwdefaults := .none, doc := .none, pyModule := .none, annotations := none, code := .none, closureTuple := .none, builtins := 0 } }
noncomputable def o515 : Obj := { cls := .type "code", data := .fields #[.str "start" 898, .str "SequentialReader.start" 899, .str "/claim/cut.py" 900, .int 268 0, .int 2 0, .int 0 0, .int 0 0, .int 3 0, .ref 510, .bool true, .int 181 0, .ref 511, .none, .ref 512, .ref 513, .ref 514, .int 903 0, .int 268 0, .str "/claim/cut.py" 904] }
noncomputable def o516 : Obj := { cls := .type "function", data := .func (fnOf "start" "SequentialReader.start" (fArgs (sub 34 1)) (fBody (sub 34 1)) (fScope (sub 34 1)) .none .none .none (.str "pixelpress.sequential" 799) none (.ref 515) .none) }
noncomputable def o519 : Obj := { cls := .type "tuple", data := .seq #[.str "self" 909, .str "size" 910] }
noncomputable def o521 : Obj := { cls := .none, data := .func { name := "number", qualname := "SequentialReader.number", params := fArgs (sub 34 2), body := .stmts (fBody (sub 34 2)), scope := fScope (sub 34 2), globals := 0, closure := [], defaults := .none, kwdefaults := .none, doc := .none, pyModule := .none, annotations := none, code := .none, closureTuple := .none, builtins := 0 } }
noncomputable def o522 : Obj := { cls := .type "code", data := .fields #[.str "number" 906, .str "SequentialReader.number" 907, .str "/claim/cut.py" 908, .int 272 0, .int 2 0, .int 0 0, .int 0 0, .int 3 0, .ref 517, .bool true, .int 181 0, .ref 518, .none, .ref 519, .ref 520, .ref 521, .int 911 0, .int 272 0, .str "/claim/cut.py" 912] }
noncomputable def o523 : Obj := { cls := .type "function", data := .func (fnOf "number" "SequentialReader.number" (fArgs (sub 34 2)) (fBody (sub 34 2)) (fScope (sub 34 2)) .none .none .none (.str "pixelpress.sequential" 799) none (.ref 522) .none) }
noncomputable def o526 : Obj := { cls := .type "tuple", data := .seq #[.str "self" 917, .str "place" 918, .str "row" 919, .str "found" 920, .str "size" 921, .str "table" 922, .str "k" 923, .str "symbol" 924, .str "run" 925] }
noncomputable def o528 : Obj := { cls := .none, data := .func { name := "read", qualname := "SequentialReader.read", params := fArgs (sub 34 3), body := .stmts (fBody (sub 34 3)), scope := fScope (sub 34 3), globals := 0, closure := [], defaults := .none, kwdefaults := .none, doc := .none, pyModule := .none, annotations := none, code := .none, closureTuple := .none, builtins := 0 } }
noncomputable def o529 : Obj := { cls := .type "code", data := .fields #[.str "read" 914, .str "SequentialReader.read" 915, .str "/claim/cut.py" 916, .int 275 0, .int 3 0, .int 0 0, .int 0 0, .int 3 0, .ref 524, .bool true, .int 181 0, .ref 525, .none, .ref 526, .ref 527, .ref 528, .int 926 0, .int 275 0, .str "/claim/cut.py" 927] }
noncomputable def o530 : Obj := { cls := .type "function", data := .func (fnOf "read" "SequentialReader.read" (fArgs (sub 34 3)) (fBody (sub 34 3)) (fScope (sub 34 3)) .none .none .none (.str "pixelpress.sequential" 799) none (.ref 529) .none) }
noncomputable def o533 : Obj := { cls := .type "tuple", data := .seq #[.str "self" 932] }
noncomputable def o535 : Obj := { cls := .none, data := .func { name := "finish", qualname := "SequentialReader.finish", params := fArgs (sub 34 4), body := .stmts (fBody (sub 34 4)), scope := fScope (sub 34 4), globals := 0, closure := [], defaults := .none, kwdefaults := .none, doc := .none, pyModule := .none, annotations := none, code := .none, closureTuple := .none, builtins := 0 } }
noncomputable def o536 : Obj := { cls := .type "code", data := .fields #[.str "finish" 929, .str "SequentialReader.finish" 930, .str "/claim/cut.py" 931, .int 299 0, .int 1 0, .int 0 0, .int 0 0, .int 3 0, .ref 531, .bool true, .int 181 0, .ref 532, .none, .ref 533, .ref 534, .ref 535, .int 933 0, .int 299 0, .str "/claim/cut.py" 934] }
noncomputable def o537 : Obj := { cls := .type "function", data := .func (fnOf "finish" "SequentialReader.finish" (fArgs (sub 34 4)) (fBody (sub 34 4)) (fScope (sub 34 4)) .none .none .none (.str "pixelpress.sequential" 799) none (.ref 536) .none) }
noncomputable def o538 : Obj := { cls := .type "tuple", data := .seq #[.str "before" 936, .str "many" 937, .str "reader" 938, .str "scan" 939, .str "tables" 940] }
noncomputable def o539 (P : Params) : Obj := { cls := .type "dict", data := .dict #[⟨PyData.keyHash P "__module__", .str "__module__" 883, .str "pixelpress.sequential" 799⟩, ⟨PyData.keyHash P "__firstlineno__", .str "__firstlineno__" 887, .int 259 886⟩, ⟨PyData.keyHash P "__init__", .str "__init__" 897, .ref 509⟩, ⟨PyData.keyHash P "start", .str "start" 905, .ref 516⟩, ⟨PyData.keyHash P "number", .str "number" 913, .ref 523⟩, ⟨PyData.keyHash P "read", .str "read" 928, .ref 530⟩, ⟨PyData.keyHash P "finish", .str "finish" 935, .ref 537⟩, ⟨PyData.keyHash P "__static_attributes__", .str "__static_attributes__" 941, .ref 538⟩, ⟨PyData.keyHash P "__dict__", .str "__dict__" 943, .ref 541⟩, ⟨PyData.keyHash P "__weakref__", .str "__weakref__" 945, .ref 542⟩, ⟨PyData.keyHash P "__doc__", .str "__doc__" 946, .none⟩] 4 }
noncomputable def o540 : Obj := { cls := .type "type", data := .cls { name := "SequentialReader", bases := [.type "object"], mro := [.ref 540, .type "object"], ns := 539, qualname := "SequentialReader", hasDict := true, slotNames := [], subclasses := [], abstract := false, collection := none, hasDel := false }, slots := #[none, none, some (.str "SequentialReader" 876), some (.str "SequentialReader" 884), some (.builtin "object.__new__"), some (.bool true)] }
noncomputable def o541 : Obj := { cls := .type "getset_descriptor", data := .fields #[.str "__dict__" 942, .ref 540, .builtin "function.__dict__", .builtin "function.__dict__#set"] }
noncomputable def o542 : Obj := { cls := .type "getset_descriptor", data := .fields #[.str "__weakref__" 944, .ref 540, .builtin "ExceptionGroup.__weakref__", .none] }
noncomputable def o543 : Obj := { cls := .type "super", data := .fields #[.ref 540, .ref 540, .ref 540] }
noncomputable def o544 : Obj := { cls := .type "builtin_function_or_method", data := .fields #[.builtin "object.__init_subclass__", .ref 540] }
noncomputable def o547 (P : Params) : Obj := { cls := .type "dict", data := .dict #[⟨PyData.keyHash P "__module__", .str "__module__" 958, .str "pixelpress.sinks" 949⟩, ⟨PyData.keyHash P "__qualname__", .str "__qualname__" 960, .str "CodeSink" 959⟩, ⟨PyData.keyHash P "__firstlineno__", .str "__firstlineno__" 962, .int 303 961⟩, ⟨PyData.keyHash P "__init__", .str "__init__" 970, .ref 558⟩, ⟨PyData.keyHash P "symbol", .str "symbol" 981, .ref 565⟩, ⟨PyData.keyHash P "bits", .str "bits" 990, .ref 572⟩, ⟨PyData.keyHash P "finish", .str "finish" 998, .ref 579⟩, ⟨PyData.keyHash P "__static_attributes__", .str "__static_attributes__" 1001, .ref 580⟩] 8 }
noncomputable def o549 : Obj := { cls := .none, data := .fields #[.int 305 0, .int 4 0, .ref 557, .int 309 0, .int 4 0, .ref 564, .int 313 0, .int 4 0, .ref 571, .int 316 0, .int 4 0, .ref 578] }
noncomputable def o550 : Obj := { cls := .type "code", data := .fields #[.str "CodeSink" 953, .str "CodeSink" 954, .str "/claim/cut.py" 955, .int 303 0, .int 0 0, .int 0 0, .int 0 0, .int 0 0, .ref 548, .bool false, .int 181 0, .ref 549, .none, .none, .none, .none, .int 956 0, .int 303 0, .str "/claim/cut.py" 957] }
noncomputable def o551 : Obj := { cls := .type "frame", slots := #[some (.ref 550), some (.ref 3), some (.ref 547), none, some (.str "pixelpress.sinks" 949), none, some (.ref 0)] }
noncomputable def o554 : Obj := { cls := .type "tuple", data := .seq #[.str "self" 966, .str "tables" 967] }
noncomputable def o556 : Obj := { cls := .none, data := .func { name := "__init__", qualname := "CodeSink.__init__", params := fArgs (sub 36 0), body := .stmts (fBody (sub 36 0)), scope := fScope (sub 36 0), globals := 0, closure := [], defaults := .none, kwdefaults := .none, doc := .none, pyModule := .none, annotations := none, code := .none, closureTuple := .none, builtins := 0 } }
noncomputable def o557 : Obj := { cls := .type "code", data := .fields #[.str "__init__" 963, .str "CodeSink.__init__" 964, .str "/claim/cut.py" 965, .int 305 0, .int 2 0, .int 0 0, .int 0 0, .int 3 0, .ref 552, .bool true, .int 181 0, .ref 553, .none, .ref 554, .ref 555, .ref 556, .int 968 0, .int 305 0, .str "/claim/cut.py" 969] }
noncomputable def o558 : Obj := { cls := .type "function", data := .func (fnOf "__init__" "CodeSink.__init__" (fArgs (sub 36 0)) (fBody (sub 36 0)) (fScope (sub 36 0)) .none .none .none (.str "pixelpress.sinks" 949) none (.ref 557) .none) }
noncomputable def o561 : Obj := { cls := .type "tuple", data := .seq #[.str "self" 974, .str "key" 975, .str "s" 976, .str "bits" 977, .str "size" 978] }
noncomputable def o563 : Obj := { cls := .none, data := .func { name := "symbol", qualname := "CodeSink.symbol", params := fArgs (sub 36 1), body := .stmts (fBody (sub 36 1)), scope := fScope (sub 36 1), globals := 0, closure := [], defaults := .none, kwdefaults := .none, doc := .none, pyModule := .none, annotations := none, code := .none, closureTuple := .none, builtins := 0 } }
noncomputable def o564 : Obj := { cls := .type "code", data := .fields #[.str "symbol" 971, .str "CodeSink.symbol" 972, .str "/claim/cut.py" 973, .int 309 0, .int 3 0, .int 0 0, .int 0 0, .int 3 0, .ref 559, .bool true, .int 181 0, .ref 560, .none, .ref 561, .ref 562, .ref 563, .int 979 0, .int 309 0, .str "/claim/cut.py" 980] }
noncomputable def o565 : Obj := { cls := .type "function", data := .func (fnOf "symbol" "CodeSink.symbol" (fArgs (sub 36 1)) (fBody (sub 36 1)) (fScope (sub 36 1)) .none .none .none (.str "pixelpress.sinks" 949) none (.ref 564) .none) }
noncomputable def o568 : Obj := { cls := .type "tuple", data := .seq #[.str "self" 985, .str "v" 986, .str "size" 987] }
noncomputable def o570 : Obj := { cls := .none, data := .func { name := "bits", qualname := "CodeSink.bits", params := fArgs (sub 36 2), body := .stmts (fBody (sub 36 2)), scope := fScope (sub 36 2), globals := 0, closure := [], defaults := .none, kwdefaults := .none, doc := .none, pyModule := .none, annotations := none, code := .none, closureTuple := .none, builtins := 0 } }
noncomputable def o571 : Obj := { cls := .type "code", data := .fields #[.str "bits" 982, .str "CodeSink.bits" 983, .str "/claim/cut.py" 984, .int 313 0, .int 3 0, .int 0 0, .int 0 0, .int 3 0, .ref 566, .bool true, .int 181 0, .ref 567, .none, .ref 568, .ref 569, .ref 570, .int 988 0, .int 313 0, .str "/claim/cut.py" 989] }
noncomputable def o572 : Obj := { cls := .type "function", data := .func (fnOf "bits" "CodeSink.bits" (fArgs (sub 36 2)) (fBody (sub 36 2)) (fScope (sub 36 2)) .none .none .none (.str "pixelpress.sinks" 949) none (.ref 571) .none) }
noncomputable def o575 : Obj := { cls := .type "tuple", data := .seq #[.str "self" 994, .str "found" 995] }
noncomputable def o577 : Obj := { cls := .none, data := .func { name := "finish", qualname := "CodeSink.finish", params := fArgs (sub 36 3), body := .stmts (fBody (sub 36 3)), scope := fScope (sub 36 3), globals := 0, closure := [], defaults := .none, kwdefaults := .none, doc := .none, pyModule := .none, annotations := none, code := .none, closureTuple := .none, builtins := 0 } }
noncomputable def o578 : Obj := { cls := .type "code", data := .fields #[.str "finish" 991, .str "CodeSink.finish" 992, .str "/claim/cut.py" 993, .int 316 0, .int 1 0, .int 0 0, .int 0 0, .int 3 0, .ref 573, .bool true, .int 181 0, .ref 574, .none, .ref 575, .ref 576, .ref 577, .int 996 0, .int 316 0, .str "/claim/cut.py" 997] }
noncomputable def o579 : Obj := { cls := .type "function", data := .func (fnOf "finish" "CodeSink.finish" (fArgs (sub 36 3)) (fBody (sub 36 3)) (fScope (sub 36 3)) .none .none .none (.str "pixelpress.sinks" 949) none (.ref 578) .none) }
noncomputable def o580 : Obj := { cls := .type "tuple", data := .seq #[.str "tables" 999, .str "writer" 1000] }
noncomputable def o581 (P : Params) : Obj := { cls := .type "dict", data := .dict #[⟨PyData.keyHash P "__module__", .str "__module__" 958, .str "pixelpress.sinks" 949⟩, ⟨PyData.keyHash P "__firstlineno__", .str "__firstlineno__" 962, .int 303 961⟩, ⟨PyData.keyHash P "__init__", .str "__init__" 970, .ref 558⟩, ⟨PyData.keyHash P "symbol", .str "symbol" 981, .ref 565⟩, ⟨PyData.keyHash P "bits", .str "bits" 990, .ref 572⟩, ⟨PyData.keyHash P "finish", .str "finish" 998, .ref 579⟩, ⟨PyData.keyHash P "__static_attributes__", .str "__static_attributes__" 1001, .ref 580⟩, ⟨PyData.keyHash P "__dict__", .str "__dict__" 1003, .ref 583⟩, ⟨PyData.keyHash P "__weakref__", .str "__weakref__" 1005, .ref 584⟩, ⟨PyData.keyHash P "__doc__", .str "__doc__" 1006, .none⟩] 4 }
noncomputable def o582 : Obj := { cls := .type "type", data := .cls { name := "CodeSink", bases := [.type "object"], mro := [.ref 582, .type "object"], ns := 581, qualname := "CodeSink", hasDict := true, slotNames := [], subclasses := [], abstract := false, collection := none, hasDel := false }, slots := #[none, none, some (.str "CodeSink" 951), some (.str "CodeSink" 959), some (.builtin "object.__new__"), some (.bool true)] }
noncomputable def o583 : Obj := { cls := .type "getset_descriptor", data := .fields #[.str "__dict__" 1002, .ref 582, .builtin "function.__dict__", .builtin "function.__dict__#set"] }
noncomputable def o584 : Obj := { cls := .type "getset_descriptor", data := .fields #[.str "__weakref__" 1004, .ref 582, .builtin "ExceptionGroup.__weakref__", .none] }
noncomputable def o585 : Obj := { cls := .type "super", data := .fields #[.ref 582, .ref 582, .ref 582] }
noncomputable def o586 : Obj := { cls := .type "builtin_function_or_method", data := .fields #[.builtin "object.__init_subclass__", .ref 582] }
noncomputable def o3_6 (P : Params) : Obj := { cls := .type "dict", data := .dict #[⟨PyData.keyHash P "__name__", .str "__name__" 165, .str "law_pf0245_01" 1009⟩, ⟨PyData.keyHash P "__doc__", .str "__doc__" 166, .none⟩, ⟨PyData.keyHash P "__package__", .str "__package__" 167, .none⟩, ⟨PyData.keyHash P "__loader__", .str "__loader__" 168, .builtin "__main__.__loader__#opaque"⟩, ⟨PyData.keyHash P "__spec__", .str "__spec__" 169, .none⟩, ⟨PyData.keyHash P "__annotations__", .str "__annotations__" 170, .ref 6⟩, ⟨PyData.keyHash P "__builtins__", .str "__builtins__" 171, .ref 4⟩, ⟨PyData.keyHash P "__file__", .str "__file__" 173, .str "/claim/cut.py" 172⟩, ⟨PyData.keyHash P "__cached__", .str "__cached__" 174, .none⟩, ⟨PyData.keyHash P "_wall", .str "_wall" 193, .ref 21⟩, ⟨PyData.keyHash P "DirectWriter", .str "DirectWriter" 249, .ref 59⟩, ⟨PyData.keyHash P "DirectReader", .str "DirectReader" 304, .ref 101⟩, ⟨PyData.keyHash P "PressError", .str "PressError" 335, .ref 122⟩, ⟨PyData.keyHash P "TableError", .str "TableError" 351, .ref 135⟩, ⟨PyData.keyHash P "CodeError", .str "CodeError" 367, .ref 147⟩, ⟨PyData.keyHash P "CutError", .str "CutError" 383, .ref 159⟩, ⟨PyData.keyHash P "RangeError", .str "RangeError" 399, .ref 171⟩, ⟨PyData.keyHash P "MOST_BITS", .str "MOST_BITS" 403, .int 16 402⟩, ⟨PyData.keyHash P "MOST_SYMBOLS", .str "MOST_SYMBOLS" 405, .int 256 404⟩, ⟨PyData.keyHash P "code_rows", .str "code_rows" 417, .ref 180⟩, ⟨PyData.keyHash P "check_told", .str "check_told" 427, .ref 187⟩, ⟨PyData.keyHash P "HuffTable", .str "HuffTable" 486, .ref 218⟩, ⟨PyData.keyHash P "BitWriter", .str "BitWriter" 541, .ref 260⟩, ⟨PyData.keyHash P "BitReader", .str "BitReader" 596, .ref 302⟩, ⟨PyData.keyHash P "category", .str "category" 605, .ref 313⟩, ⟨PyData.keyHash P "bits_of", .str "bits_of" 613, .ref 320⟩, ⟨PyData.keyHash P "value_of", .str "value_of" 621, .ref 327⟩, ⟨PyData.keyHash P "MOST_CATEGORY", .str "MOST_CATEGORY" 625, .int 15 624⟩, ⟨PyData.keyHash P "DcFirstWriter", .str "DcFirstWriter" 683, .ref 365⟩, ⟨PyData.keyHash P "DcFirstReader", .str "DcFirstReader" 741, .ref 407⟩, ⟨PyData.keyHash P "Scan", .str "Scan" 798, .ref 442⟩, ⟨PyData.keyHash P "ZEROS", .str "ZEROS" 802, .int 240 801⟩, ⟨PyData.keyHash P "MOST_SIZE", .str "MOST_SIZE" 804, .int 15 803⟩, ⟨PyData.keyHash P "put_number", .str "put_number" 815, .ref 453⟩, ⟨PyData.keyHash P "SequentialWriter", .str "SequentialWriter" 875, .ref 491⟩, ⟨PyData.keyHash P "SequentialReader", .str "SequentialReader" 948, .ref 540⟩, ⟨PyData.keyHash P "CodeSink", .str "CodeSink" 1008, .ref 582⟩, ⟨PyData.keyHash P "_law_jug", .str "_law_jug" 1019, .ref 593⟩, ⟨PyData.keyHash P "_law_sip", .str "_law_sip" 1028, .ref 600⟩, ⟨PyData.keyHash P "_law_lists", .str "_law_lists" 1034, .ref 605⟩, ⟨PyData.keyHash P "_law_tables", .str "_law_tables" 1040, .ref 610⟩, ⟨PyData.keyHash P "_law_figures", .str "_law_figures" 1046, .ref 615⟩, ⟨PyData.keyHash P "_law_coded", .str "_law_coded" 1060, .ref 622⟩, ⟨PyData.keyHash P "_law_block", .str "_law_block" 1074, .ref 629⟩, ⟨PyData.keyHash P "_law_octets", .str "_law_octets" 1085, .ref 636⟩, ⟨PyData.keyHash P "_law_row", .str "_law_row" 1091, .ref 641⟩, ⟨PyData.keyHash P "_law_interval_right", .str "_law_interval_right" 1097, .ref 646⟩, ⟨PyData.keyHash P "law", .str "law" 1103, .ref 651⟩] 48 }
noncomputable def o12_7 : Obj := { cls := .none, data := .fields #[.int 1 0, .int 0 0, .ref 20, .int 5 0, .int 0 0, .ref 27, .int 20 0, .int 0 0, .ref 69, .int 36 0, .int 0 0, .ref 111, .int 41 0, .int 0 0, .ref 131, .int 43 0, .int 0 0, .ref 143, .int 45 0, .int 0 0, .ref 155, .int 47 0, .int 0 0, .ref 167, .int 52 0, .int 0 0, .ref 179, .int 64 0, .int 0 0, .ref 186, .int 74 0, .int 0 0, .ref 193, .int 101 0, .int 0 0, .ref 228, .int 124 0, .int 0 0, .ref 270, .int 148 0, .int 0 0, .ref 312, .int 150 0, .int 0 0, .ref 319, .int 154 0, .int 0 0, .ref 326, .int 160 0, .int 0 0, .ref 333, .int 181 0, .int 0 0, .ref 375, .int 204 0, .int 0 0, .ref 417, .int 223 0, .int 0 0, .ref 452, .int 229 0, .int 0 0, .ref 459, .int 259 0, .int 0 0, .ref 501, .int 303 0, .int 0 0, .ref 550, .int 322 0, .int 0 0, .ref 592, .int 326 0, .int 0 0, .ref 599, .int 333 0, .int 0 0, .ref 604, .int 338 0, .int 0 0, .ref 609, .int 344 0, .int 0 0, .ref 614, .int 346 0, .int 0 0, .ref 621, .int 353 0, .int 0 0, .ref 628, .int 364 0, .int 0 0, .ref 635, .int 373 0, .int 0 0, .ref 640, .int 375 0, .int 0 0, .ref 645, .int 393 0, .int 0 0, .ref 650] }
noncomputable def o589 : Obj := { cls := .type "tuple", data := .seq #[.str "script" 1014, .str "cell" 1015, .str "size" 1016] }
noncomputable def o591 : Obj := { cls := .none, data := .func { name := "_law_jug", qualname := "_law_jug", params := fArgs (stm 38), body := .stmts (fBody (stm 38)), scope := fScope (stm 38), globals := 0, closure := [], defaults := .none, kwdefaults := .none, doc := .none, pyModule := .none, annotations := none, code := .none, closureTuple := .none, builtins := 0 } }
noncomputable def o592 : Obj := { cls := .type "code", data := .fields #[.str "_law_jug" 1011, .str "_law_jug" 1012, .str "/claim/cut.py" 1013, .int 322 0, .int 1 0, .int 0 0, .int 0 0, .int 3 0, .ref 587, .bool true, .int 181 0, .ref 588, .none, .ref 589, .ref 590, .ref 591, .int 1017 0, .int 322 0, .str "/claim/cut.py" 1018] }
noncomputable def o593 : Obj := { cls := .type "function", data := .func (fnOf "_law_jug" "_law_jug" (fArgs (stm 38)) (fBody (stm 38)) (fScope (stm 38)) .none .none .none (.str "law_pf0245_01" 1009) none (.ref 592) .none) }
noncomputable def o596 : Obj := { cls := .type "tuple", data := .seq #[.str "jug" 1023, .str "many" 1024, .str "found" 1025] }
noncomputable def o598 : Obj := { cls := .none, data := .func { name := "_law_sip", qualname := "_law_sip", params := fArgs (stm 39), body := .stmts (fBody (stm 39)), scope := fScope (stm 39), globals := 0, closure := [], defaults := .none, kwdefaults := .none, doc := .none, pyModule := .none, annotations := none, code := .none, closureTuple := .none, builtins := 0 } }
noncomputable def o599 : Obj := { cls := .type "code", data := .fields #[.str "_law_sip" 1020, .str "_law_sip" 1021, .str "/claim/cut.py" 1022, .int 326 0, .int 2 0, .int 0 0, .int 0 0, .int 3 0, .ref 594, .bool true, .int 181 0, .ref 595, .none, .ref 596, .ref 597, .ref 598, .int 1026 0, .int 326 0, .str "/claim/cut.py" 1027] }
noncomputable def o600 : Obj := { cls := .type "function", data := .func (fnOf "_law_sip" "_law_sip" (fArgs (stm 39)) (fBody (stm 39)) (fScope (stm 39)) .none .none .none (.str "law_pf0245_01" 1009) none (.ref 599) .none) }
noncomputable def o603 : Obj := { cls := .none, data := .func { name := "_law_lists", qualname := "_law_lists", params := ⟨[], [], none, [], [], none, []⟩, body := .stmts (fBody (stm 40)), scope := fScope (stm 40), globals := 0, closure := [], defaults := .none, kwdefaults := .none, doc := .none, pyModule := .none, annotations := none, code := .none, closureTuple := .none, builtins := 0 } }
noncomputable def o604 : Obj := { cls := .type "code", data := .fields #[.str "_law_lists" 1029, .str "_law_lists" 1030, .str "/claim/cut.py" 1031, .int 333 0, .int 0 0, .int 0 0, .int 0 0, .int 3 0, .ref 601, .bool true, .int 181 0, .ref 602, .none, .none, .none, .ref 603, .int 1032 0, .int 333 0, .str "/claim/cut.py" 1033] }
noncomputable def o605 : Obj := { cls := .type "function", data := .func (fnOf "_law_lists" "_law_lists" (fArgs (stm 40)) (fBody (stm 40)) (fScope (stm 40)) .none .none .none (.str "law_pf0245_01" 1009) none (.ref 604) .none) }
noncomputable def o608 : Obj := { cls := .none, data := .func { name := "_law_tables", qualname := "_law_tables", params := fArgs (stm 41), body := .stmts (fBody (stm 41)), scope := fScope (stm 41), globals := 0, closure := [], defaults := .none, kwdefaults := .none, doc := .none, pyModule := .none, annotations := none, code := .none, closureTuple := .none, builtins := 0 } }
noncomputable def o609 : Obj := { cls := .type "code", data := .fields #[.str "_law_tables" 1035, .str "_law_tables" 1036, .str "/claim/cut.py" 1037, .int 338 0, .int 1 0, .int 0 0, .int 0 0, .int 3 0, .ref 606, .bool true, .int 181 0, .ref 607, .none, .none, .none, .ref 608, .int 1038 0, .int 338 0, .str "/claim/cut.py" 1039] }
noncomputable def o610 : Obj := { cls := .type "function", data := .func (fnOf "_law_tables" "_law_tables" (fArgs (stm 41)) (fBody (stm 41)) (fScope (stm 41)) .none .none .none (.str "law_pf0245_01" 1009) none (.ref 609) .none) }
noncomputable def o613 : Obj := { cls := .none, data := .func { name := "_law_figures", qualname := "_law_figures", params := fArgs (stm 42), body := .stmts (fBody (stm 42)), scope := fScope (stm 42), globals := 0, closure := [], defaults := .none, kwdefaults := .none, doc := .none, pyModule := .none, annotations := none, code := .none, closureTuple := .none, builtins := 0 } }
noncomputable def o614 : Obj := { cls := .type "code", data := .fields #[.str "_law_figures" 1041, .str "_law_figures" 1042, .str "/claim/cut.py" 1043, .int 344 0, .int 2 0, .int 0 0, .int 0 0, .int 3 0, .ref 611, .bool true, .int 181 0, .ref 612, .none, .none, .none, .ref 613, .int 1044 0, .int 344 0, .str "/claim/cut.py" 1045] }
noncomputable def o615 : Obj := { cls := .type "function", data := .func (fnOf "_law_figures" "_law_figures" (fArgs (stm 42)) (fBody (stm 42)) (fScope (stm 42)) .none .none .none (.str "law_pf0245_01" 1009) none (.ref 614) .none) }
noncomputable def o618 : Obj := { cls := .type "tuple", data := .seq #[.str "lists" 1050, .str "key" 1051, .str "run" 1052, .str "value" 1053, .str "size" 1054, .str "symbols" 1055, .str "length" 1056, .str "figures" 1057] }
noncomputable def o620 : Obj := { cls := .none, data := .func { name := "_law_coded", qualname := "_law_coded", params := fArgs (stm 43), body := .stmts (fBody (stm 43)), scope := fScope (stm 43), globals := 0, closure := [], defaults := .none, kwdefaults := .none, doc := .none, pyModule := .none, annotations := none, code := .none, closureTuple := .none, builtins := 0 } }
noncomputable def o621 : Obj := { cls := .type "code", data := .fields #[.str "_law_coded" 1047, .str "_law_coded" 1048, .str "/claim/cut.py" 1049, .int 346 0, .int 4 0, .int 0 0, .int 0 0, .int 3 0, .ref 616, .bool true, .int 181 0, .ref 617, .none, .ref 618, .ref 619, .ref 620, .int 1058 0, .int 346 0, .str "/claim/cut.py" 1059] }
noncomputable def o622 : Obj := { cls := .type "function", data := .func (fnOf "_law_coded" "_law_coded" (fArgs (stm 43)) (fBody (stm 43)) (fScope (stm 43)) .none .none .none (.str "law_pf0245_01" 1009) none (.ref 621) .none) }
noncomputable def o625 : Obj := { cls := .type "tuple", data := .seq #[.str "lists" 1064, .str "scan" 1065, .str "place" 1066, .str "row" 1067, .str "figures" 1068, .str "key" 1069, .str "ahead" 1070, .str "value" 1071] }
noncomputable def o627 : Obj := { cls := .none, data := .func { name := "_law_block", qualname := "_law_block", params := fArgs (stm 44), body := .stmts (fBody (stm 44)), scope := fScope (stm 44), globals := 0, closure := [], defaults := .none, kwdefaults := .none, doc := .none, pyModule := .none, annotations := none, code := .none, closureTuple := .none, builtins := 0 } }
noncomputable def o628 : Obj := { cls := .type "code", data := .fields #[.str "_law_block" 1061, .str "_law_block" 1062, .str "/claim/cut.py" 1063, .int 353 0, .int 4 0, .int 0 0, .int 0 0, .int 3 0, .ref 623, .bool true, .int 181 0, .ref 624, .none, .ref 625, .ref 626, .ref 627, .int 1072 0, .int 353 0, .str "/claim/cut.py" 1073] }
noncomputable def o629 : Obj := { cls := .type "function", data := .func (fnOf "_law_block" "_law_block" (fArgs (stm 44)) (fBody (stm 44)) (fScope (stm 44)) .none .none .none (.str "law_pf0245_01" 1009) none (.ref 628) .none) }
noncomputable def o632 : Obj := { cls := .type "tuple", data := .seq #[.str "figures" 1078, .str "found" 1079, .str "at" 1080, .str "worth" 1081, .str "figure" 1082] }
noncomputable def o634 : Obj := { cls := .none, data := .func { name := "_law_octets", qualname := "_law_octets", params := fArgs (stm 45), body := .stmts (fBody (stm 45)), scope := fScope (stm 45), globals := 0, closure := [], defaults := .none, kwdefaults := .none, doc := .none, pyModule := .none, annotations := none, code := .none, closureTuple := .none, builtins := 0 } }
noncomputable def o635 : Obj := { cls := .type "code", data := .fields #[.str "_law_octets" 1075, .str "_law_octets" 1076, .str "/claim/cut.py" 1077, .int 364 0, .int 1 0, .int 0 0, .int 0 0, .int 3 0, .ref 630, .bool true, .int 181 0, .ref 631, .none, .ref 632, .ref 633, .ref 634, .int 1083 0, .int 364 0, .str "/claim/cut.py" 1084] }
noncomputable def o636 : Obj := { cls := .type "function", data := .func (fnOf "_law_octets" "_law_octets" (fArgs (stm 45)) (fBody (stm 45)) (fScope (stm 45)) .none .none .none (.str "law_pf0245_01" 1009) none (.ref 635) .none) }
noncomputable def o639 : Obj := { cls := .none, data := .func { name := "_law_row", qualname := "_law_row", params := fArgs (stm 46), body := .stmts (fBody (stm 46)), scope := fScope (stm 46), globals := 0, closure := [], defaults := .none, kwdefaults := .none, doc := .none, pyModule := .none, annotations := none, code := .none, closureTuple := .none, builtins := 0 } }
noncomputable def o640 : Obj := { cls := .type "code", data := .fields #[.str "_law_row" 1086, .str "_law_row" 1087, .str "/claim/cut.py" 1088, .int 373 0, .int 1 0, .int 0 0, .int 0 0, .int 3 0, .ref 637, .bool true, .int 181 0, .ref 638, .none, .none, .none, .ref 639, .int 1089 0, .int 373 0, .str "/claim/cut.py" 1090] }
noncomputable def o641 : Obj := { cls := .type "function", data := .func (fnOf "_law_row" "_law_row" (fArgs (stm 46)) (fBody (stm 46)) (fScope (stm 46)) .none .none .none (.str "law_pf0245_01" 1009) none (.ref 640) .none) }
noncomputable def o644 : Obj := { cls := .none, data := .func { name := "_law_interval_right", qualname := "_law_interval_right", params := fArgs (stm 47), body := .stmts (fBody (stm 47)), scope := fScope (stm 47), globals := 0, closure := [], defaults := .none, kwdefaults := .none, doc := .none, pyModule := .none, annotations := none, code := .none, closureTuple := .none, builtins := 0 } }
noncomputable def o645 : Obj := { cls := .type "code", data := .fields #[.str "_law_interval_right" 1092, .str "_law_interval_right" 1093, .str "/claim/cut.py" 1094, .int 375 0, .int 5 0, .int 0 0, .int 0 0, .int 3 0, .ref 642, .bool true, .int 181 0, .ref 643, .none, .none, .none, .ref 644, .int 1095 0, .int 375 0, .str "/claim/cut.py" 1096] }
noncomputable def o646 : Obj := { cls := .type "function", data := .func (fnOf "_law_interval_right" "_law_interval_right" (fArgs (stm 47)) (fBody (stm 47)) (fScope (stm 47)) .none .none .none (.str "law_pf0245_01" 1009) none (.ref 645) .none) }
noncomputable def o649 : Obj := { cls := .none, data := .func { name := "law", qualname := "law", params := fArgs (stm 48), body := .stmts (fBody (stm 48)), scope := fScope (stm 48), globals := 0, closure := [], defaults := .none, kwdefaults := .none, doc := .none, pyModule := .none, annotations := none, code := .none, closureTuple := .none, builtins := 0 } }
noncomputable def o650 : Obj := { cls := .type "code", data := .fields #[.str "law" 1098, .str "law" 1099, .str "/claim/cut.py" 1100, .int 393 0, .int 1 0, .int 0 0, .int 0 0, .int 3 0, .ref 647, .bool true, .int 181 0, .ref 648, .none, .none, .none, .ref 649, .int 1101 0, .int 393 0, .str "/claim/cut.py" 1102] }
noncomputable def o651 : Obj := { cls := .type "function", data := .func (fnOf "law" "law" (fArgs (stm 48)) (fBody (stm 48)) (fScope (stm 48)) .none .none .none (.str "law_pf0245_01" 1009) none (.ref 650) .none) }
noncomputable def tB (P : Params) : BT :=
  (.node (boot_o_0 P) (.node (boot_o_1 P) (.node (boot_o_3 P) (.node (boot_o_7 P) .nil .nil) (.node o11 .nil .nil)) (.node (boot_o_5 P) (.node (boot_o_9 P) .nil .nil) (.node o13 .nil .nil))) (.node (boot_o_2 P) (.node (boot_o_4 P) (.node (boot_o_8 P) .nil .nil) (.node o12 .nil .nil)) (.node (boot_o_6 P) (.node (boot_o_10 P) .nil .nil) (.node o14 .nil .nil))))
noncomputable def t5 (P : Params) : BT :=
  (.node (boot_o_0 P) (.node (boot_o_1 P) (.node (o3 P) (.node (boot_o_7 P) (.node o11 (.node o31 (.node o63 .nil .nil) (.node o11 .nil .nil)) (.node o47 (.node o12 .nil .nil) (.node o111 .nil .nil))) (.node o23 (.node o11 (.node o11 .nil .nil) (.node o103 .nil .nil)) (.node o55 (.node o87 .nil .nil) (.node o119 .nil .nil)))) (.node o11 (.node o19 (.node o35 (.node o11 .nil .nil) (.node o99 .nil .nil)) (.node o12 (.node o83 .nil .nil) (.node o115 .nil .nil))) (.node o27 (.node o11 (.node o75 .nil .nil) (.node o23 .nil .nil)) (.node o59 (.node o91 .nil .nil) (.node o123 .nil .nil))))) (.node (boot_o_5 P) (.node (boot_o_9 P) (.node o17 (.node o33 (.node o23 .nil .nil) (.node o97 .nil .nil)) (.node o49 (.node o11 .nil .nil) (.node o11 .nil .nil))) (.node o11 (.node o41 (.node o73 .nil .nil) (.node o105 .nil .nil)) (.node o57 (.node o89 .nil .nil) (.node (o121 P) .nil .nil)))) (.node o13 (.node o21 (.node o12 (.node o69 .nil .nil) (.node o101 .nil .nil)) (.node o11 (.node o11 .nil .nil) (.node o117 .nil .nil))) (.node o11 (.node o45 (.node o77 .nil .nil) (.node o11 .nil .nil)) (.node o61 (.node o12 .nil .nil) (.node o125 .nil .nil)))))) (.node (o2 P) (.node (boot_o_4 P) (.node (boot_o_8 P) (.node o12 (.node o11 (.node o11 .nil .nil) (.node o96 .nil .nil)) (.node o48 (.node o80 .nil .nil) (.node o112 .nil .nil))) (.node (o24 P) (.node o40 (.node o12 .nil .nil) (.node o104 .nil .nil)) (.node o56 (.node o11 .nil .nil) (.node o120 .nil .nil)))) (.node o12_1 (.node o20 (.node o11 (.node o68 .nil .nil) (.node (o100 P) .nil .nil)) (.node o52 (.node o84 .nil .nil) (.node o11 .nil .nil))) (.node o28 (.node o12 (.node o76 .nil .nil) (.node (o108 P) .nil .nil)) (.node o60 (.node o11 .nil .nil) (.node o124 .nil .nil))))) (.node (boot_o_6 P) (.node (boot_o_10 P) (.node o11 (.node o34 (.node (o66 P) .nil .nil) (.node o98 .nil .nil)) (.node o11 (.node o82 .nil .nil) (.node o12 .nil .nil))) (.node o26 (.node o42 (.node o11 .nil .nil) (.node o106 .nil .nil)) (.node (o58 P) (.node o90 .nil .nil) (.node o122 .nil .nil)))) (.node o14 (.node o11 (.node o38 (.node o70 .nil .nil) (.node o102 .nil .nil)) (.node o54 (.node o12 .nil .nil) (.node o118 .nil .nil))) (.node o12 (.node o11 (.node o11 .nil .nil) (.node o110 .nil .nil)) (.node o62 (.node o94 .nil .nil) .nil))))))
noncomputable def t9 (P : Params) : BT :=
  (.node (boot_o_0 P) (.node (boot_o_1 P) (.node (o3_1 P) (.node (boot_o_7 P) (.node o11 (.node o31 (.node o63 (.node o23 .nil .nil) .nil) (.node o11 (.node o159 .nil .nil) .nil)) (.node o47 (.node o12 (.node o143 .nil .nil) .nil) (.node o111 .nil .nil))) (.node o23 (.node o11 (.node o11 (.node o135 .nil .nil) .nil) (.node o103 (.node o167 .nil .nil) .nil)) (.node o55 (.node o87 (.node o23 .nil .nil) .nil) (.node o119 .nil .nil)))) (.node o11 (.node o19 (.node o35 (.node o11 (.node o131 .nil .nil) .nil) (.node o99 (.node o23 .nil .nil) .nil)) (.node o12 (.node o83 (.node o147 .nil .nil) .nil) (.node o115 .nil .nil))) (.node o27 (.node o11 (.node o75 (.node o23 .nil .nil) .nil) (.node o23 (.node o171 .nil .nil) .nil)) (.node o59 (.node o91 (.node o155 .nil .nil) .nil) (.node o123 .nil .nil))))) (.node (boot_o_5 P) (.node (boot_o_9 P) (.node o17 (.node o33 (.node o23 (.node o11 .nil .nil) .nil) (.node o97 (.node o161 .nil .nil) .nil)) (.node o49 (.node o11 (.node o11 .nil .nil) .nil) (.node o11 .nil .nil))) (.node o11 (.node o41 (.node o73 (.node o137 .nil .nil) .nil) (.node o105 (.node o11 .nil .nil) .nil)) (.node o57 (.node o89 (.node o11 .nil .nil) .nil) (.node (o121 P) .nil .nil)))) (.node o13 (.node o21 (.node o12 (.node o69 (.node o11 .nil .nil) .nil) (.node o101 (.node o11 .nil .nil) .nil)) (.node o11 (.node o11 (.node o149 .nil .nil) .nil) (.node o117 .nil .nil))) (.node o11 (.node o45 (.node o77 (.node o11 .nil .nil) .nil) (.node o11 (.node o173 .nil .nil) .nil)) (.node o61 (.node o12 (.node o11 .nil .nil) .nil) (.node o125 .nil .nil)))))) (.node (o2 P) (.node (boot_o_4 P) (.node (boot_o_8 P) (.node o12 (.node o11 (.node o11 (.node (o128 P) .nil .nil) .nil) (.node o96 (.node o160 .nil .nil) .nil)) (.node o48 (.node o80 (.node o144 .nil .nil) .nil) (.node o112 .nil .nil))) (.node (o24 P) (.node o40 (.node o12 (.node o136 .nil .nil) .nil) (.node o104 (.node o168 .nil .nil) .nil)) (.node o56 (.node o11 (.node (o152 P) .nil .nil) .nil) (.node o120 .nil .nil)))) (.node o12_2 (.node o20 (.node o11 (.node o68 (.node o132 .nil .nil) .nil) (.node (o100 P) (.node (o164 P) .nil .nil) .nil)) (.node o52 (.node o84 (.node o148 .nil .nil) .nil) (.node o11 .nil .nil))) (.node o28 (.node o12 (.node o76 (.node (o140 P) .nil .nil) .nil) (.node (o108 P) (.node o172 .nil .nil) .nil)) (.node o60 (.node o11 (.node o156 .nil .nil) .nil) (.node o124 .nil .nil))))) (.node (boot_o_6 P) (.node (boot_o_10 P) (.node o11 (.node o34 (.node (o66 P) (.node o12 .nil .nil) .nil) (.node o98 (.node o126 .nil .nil) .nil)) (.node o11 (.node o82 (.node (o146 P) .nil .nil) .nil) (.node o12 .nil .nil))) (.node o26 (.node o42 (.node o11 (.node o126 .nil .nil) .nil) (.node o106 (.node (o170 P) .nil .nil) .nil)) (.node (o58 P) (.node o90 (.node o12 .nil .nil) .nil) (.node o122_1 .nil .nil)))) (.node o14 (.node o11 (.node o38 (.node o70 (.node (o134 P) .nil .nil) .nil) (.node o102 (.node o12 .nil .nil) .nil)) (.node o54 (.node o12 (.node o126 .nil .nil) .nil) (.node o118 .nil .nil))) (.node o12 (.node o11 (.node o11 (.node o12 .nil .nil) .nil) (.node o110 .nil .nil)) (.node o62 (.node o94 (.node (o158 P) .nil .nil) .nil) (.node o126 .nil .nil)))))))
noncomputable def t17 (P : Params) : BT :=
  (.node (boot_o_0 P) (.node (boot_o_1 P) (.node (o3_2 P) (.node (boot_o_7 P) (.node o11 (.node o31 (.node o63 (.node o23 (.node o255 .nil .nil) .nil) (.node o11 .nil .nil)) (.node o11 (.node o159 .nil .nil) (.node o11 .nil .nil))) (.node o47 (.node o12 (.node o143 .nil .nil) (.node o207 .nil .nil)) (.node o111 (.node o12 .nil .nil) (.node o239 .nil .nil)))) (.node o23 (.node o11 (.node o11 (.node o135 (.node o263 .nil .nil) .nil) (.node o199 .nil .nil)) (.node o103 (.node o167 .nil .nil) (.node o12 .nil .nil))) (.node o55 (.node o87 (.node o23 .nil .nil) (.node o215 .nil .nil)) (.node o119 (.node o183 .nil .nil) (.node o11 .nil .nil))))) (.node o11 (.node o19 (.node o35 (.node o11 (.node o131 (.node (o259 P) .nil .nil) .nil) (.node o11 .nil .nil)) (.node o99 (.node o23 .nil .nil) (.node o227 .nil .nil))) (.node o12 (.node o83 (.node o147 .nil .nil) (.node o211 .nil .nil)) (.node o115 (.node o179 .nil .nil) (.node o243 .nil .nil)))) (.node o27 (.node o11 (.node o75 (.node o23 .nil .nil) (.node o12 .nil .nil)) (.node o23 (.node o171 .nil .nil) (.node o235 .nil .nil))) (.node o59 (.node o91 (.node o155 .nil .nil) (.node o219 .nil .nil)) (.node o123 (.node o187 .nil .nil) (.node o11 .nil .nil)))))) (.node (boot_o_5 P) (.node (boot_o_9 P) (.node o17 (.node o33 (.node o23 (.node o11 (.node o257 .nil .nil) .nil) (.node o193 .nil .nil)) (.node o97 (.node o161 .nil .nil) (.node (o225 P) .nil .nil))) (.node o49 (.node o11 (.node o11 .nil .nil) (.node o11 .nil .nil)) (.node o11 (.node o11 .nil .nil) (.node o241 .nil .nil)))) (.node o11 (.node o41 (.node o73 (.node o137 .nil .nil) (.node o201 .nil .nil)) (.node o105 (.node o11 .nil .nil) (.node o11 .nil .nil))) (.node o57 (.node o89 (.node o11 .nil .nil) (.node (o217 P) .nil .nil)) (.node (o121 P) (.node o185 .nil .nil) (.node o249 .nil .nil))))) (.node o13 (.node o21 (.node o12 (.node o69 (.node o11 (.node o261 .nil .nil) .nil) (.node o197 .nil .nil)) (.node o101 (.node o11 .nil .nil) (.node o229 .nil .nil))) (.node o11 (.node o11 (.node o149 .nil .nil) (.node o213 .nil .nil)) (.node o117 (.node o11 .nil .nil) (.node o12 .nil .nil)))) (.node o11 (.node o45 (.node o77 (.node o11 .nil .nil) (.node o11 .nil .nil)) (.node o11 (.node o173 .nil .nil) (.node o11 .nil .nil))) (.node o61 (.node o12 (.node o11 .nil .nil) (.node o221 .nil .nil)) (.node o125 (.node o23 .nil .nil) (.node o253 .nil .nil))))))) (.node (o2 P) (.node (boot_o_4 P) (.node (boot_o_8 P) (.node o12 (.node o11 (.node o11 (.node (o128 P) (.node o256 .nil .nil) .nil) (.node o192 .nil .nil)) (.node o96 (.node o160 .nil .nil) (.node o23 .nil .nil))) (.node o48 (.node o80 (.node o144 .nil .nil) (.node o208 .nil .nil)) (.node o112 (.node o176 .nil .nil) (.node o11 .nil .nil)))) (.node (o24 P) (.node o40 (.node o12 (.node o136 (.node o264 .nil .nil) .nil) (.node o200 .nil .nil)) (.node o104 (.node o168 .nil .nil) (.node o232 .nil .nil))) (.node o56 (.node o11 (.node (o152 P) .nil .nil) (.node o216 .nil .nil)) (.node o120 (.node o11 .nil .nil) (.node o248 .nil .nil))))) (.node o12_3 (.node o20 (.node o11 (.node o68 (.node o132 (.node o260 .nil .nil) .nil) (.node o12 .nil .nil)) (.node (o100 P) (.node (o164 P) .nil .nil) (.node o228 .nil .nil))) (.node o52 (.node o84 (.node o148 .nil .nil) (.node o11 .nil .nil)) (.node o11 (.node o180 .nil .nil) (.node o11 .nil .nil)))) (.node o28 (.node o12 (.node o76 (.node (o140 P) .nil .nil) (.node o204 .nil .nil)) (.node (o108 P) (.node o172 .nil .nil) (.node o236 .nil .nil))) (.node o60 (.node o11 (.node o156 .nil .nil) (.node o220 .nil .nil)) (.node o124 (.node o11 .nil .nil) (.node o12 .nil .nil)))))) (.node (boot_o_6 P) (.node (boot_o_10 P) (.node o11 (.node o34 (.node (o66 P) (.node o12 (.node o258 .nil .nil) .nil) (.node o194 .nil .nil)) (.node o98 (.node o126 .nil .nil) (.node o11 .nil .nil))) (.node o11 (.node o82 (.node (o146 P) .nil .nil) (.node o12 .nil .nil)) (.node o12 (.node o178 .nil .nil) (.node o242 .nil .nil)))) (.node o26 (.node o42 (.node o11 (.node o126 .nil .nil) (.node o11 .nil .nil)) (.node o106 (.node (o170 P) .nil .nil) (.node o234 .nil .nil))) (.node (o58 P) (.node o90 (.node o12 .nil .nil) (.node o218 .nil .nil)) (.node o122_1 (.node o186 .nil .nil) (.node o250 .nil .nil))))) (.node o14 (.node o11 (.node o38 (.node o70 (.node (o134 P) (.node o262 .nil .nil) .nil) (.node o11 .nil .nil)) (.node o102 (.node o12 .nil .nil) (.node o11 .nil .nil))) (.node o54 (.node o12 (.node o126 .nil .nil) (.node o214 .nil .nil)) (.node o118 (.node o12 .nil .nil) (.node o246 .nil .nil)))) (.node o12 (.node o11 (.node o11 (.node o12 .nil .nil) (.node o206 .nil .nil)) (.node o110 (.node o11 .nil .nil) (.node o12 .nil .nil))) (.node o62 (.node o94 (.node (o158 P) .nil .nil) (.node o222 .nil .nil)) (.node o126 (.node (o190 P) .nil .nil) (.node o11 .nil .nil))))))))
noncomputable def t25 (P : Params) : BT :=
  (.node (boot_o_0 P) (.node (boot_o_1 P) (.node (o3_3 P) (.node (boot_o_7 P) (.node o11 (.node o31 (.node o63 (.node o23 (.node o255 .nil .nil) .nil) (.node o11 (.node o319 .nil .nil) .nil)) (.node o11 (.node o159 (.node o12 .nil .nil) .nil) (.node o11 (.node o351 .nil .nil) .nil))) (.node o47 (.node o12 (.node o143 (.node o271 .nil .nil) .nil) (.node o207 (.node o11 .nil .nil) .nil)) (.node o111 (.node o12 (.node o303 .nil .nil) .nil) (.node o239 (.node o367 .nil .nil) .nil)))) (.node o23 (.node o11 (.node o11 (.node o135 (.node o263 .nil .nil) .nil) (.node o199 (.node o327 .nil .nil) .nil)) (.node o103 (.node o167 (.node o295 .nil .nil) .nil) (.node o12 (.node o11 .nil .nil) .nil))) (.node o55 (.node o87 (.node o23 (.node o11 .nil .nil) .nil) (.node o215 (.node o12 .nil .nil) .nil)) (.node o119 (.node o183 (.node o311 .nil .nil) .nil) (.node o11 .nil .nil))))) (.node o11 (.node o19 (.node o35 (.node o11 (.node o131 (.node (o259 P) .nil .nil) .nil) (.node o11 (.node o323 .nil .nil) .nil)) (.node o99 (.node o23 (.node o291 .nil .nil) .nil) (.node o227 (.node o355 .nil .nil) .nil))) (.node o12 (.node o83 (.node o147 (.node o11 .nil .nil) .nil) (.node o211 (.node o339 .nil .nil) .nil)) (.node o115 (.node o179 (.node o11 .nil .nil) .nil) (.node o243 .nil .nil)))) (.node o27 (.node o11 (.node o75 (.node o23 (.node (o267 P) .nil .nil) .nil) (.node o12 (.node o11 .nil .nil) .nil)) (.node o23 (.node o171 (.node o299 .nil .nil) .nil) (.node o235 (.node o363 .nil .nil) .nil))) (.node o59 (.node o91 (.node o155 (.node o283 .nil .nil) .nil) (.node o219 (.node o347 .nil .nil) .nil)) (.node o123 (.node o187 (.node o12 .nil .nil) .nil) (.node o11 .nil .nil)))))) (.node (boot_o_5 P) (.node (boot_o_9 P) (.node o17 (.node o33 (.node o23 (.node o11 (.node o257 .nil .nil) .nil) (.node o193 (.node o11 .nil .nil) .nil)) (.node o97 (.node o161 (.node o11 .nil .nil) .nil) (.node (o225 P) (.node o353 .nil .nil) .nil))) (.node o49 (.node o11 (.node o11 (.node o12 .nil .nil) .nil) (.node o11 (.node o337 .nil .nil) .nil)) (.node o11 (.node o11 (.node o305 .nil .nil) .nil) (.node o241 (.node o369 .nil .nil) .nil)))) (.node o11 (.node o41 (.node o73 (.node o137 (.node o11 .nil .nil) .nil) (.node o201 (.node o23 .nil .nil) .nil)) (.node o105 (.node o11 (.node o297 .nil .nil) .nil) (.node o11 (.node o361 .nil .nil) .nil))) (.node o57 (.node o89 (.node o11 (.node o281 .nil .nil) .nil) (.node (o217 P) (.node o11 .nil .nil) .nil)) (.node (o121 P) (.node o185 (.node o313 .nil .nil) .nil) (.node o249 .nil .nil))))) (.node o13 (.node o21 (.node o12 (.node o69 (.node o11 (.node o261 .nil .nil) .nil) (.node o197 (.node o325 .nil .nil) .nil)) (.node o101 (.node o11 (.node o11 .nil .nil) .nil) (.node o229 (.node o12 .nil .nil) .nil))) (.node o11 (.node o11 (.node o149 (.node o277 .nil .nil) .nil) (.node o213 (.node o341 .nil .nil) .nil)) (.node o117 (.node o11 (.node o309 .nil .nil) .nil) (.node o12 .nil .nil)))) (.node o11 (.node o45 (.node o77 (.node o11 (.node o269 .nil .nil) .nil) (.node o11 (.node o333 .nil .nil) .nil)) (.node o11 (.node o173 (.node (o301 P) .nil .nil) .nil) (.node o11 (.node o365 .nil .nil) .nil))) (.node o61 (.node o12 (.node o11 (.node o285 .nil .nil) .nil) (.node o221 (.node o11 .nil .nil) .nil)) (.node o125 (.node o23 (.node o11 .nil .nil) .nil) (.node o253 .nil .nil))))))) (.node (o2 P) (.node (boot_o_4 P) (.node (boot_o_8 P) (.node o12 (.node o11 (.node o11 (.node (o128 P) (.node o256 .nil .nil) .nil) (.node o192 (.node o320 .nil .nil) .nil)) (.node o96 (.node o160 (.node o288 .nil .nil) .nil) (.node o23 (.node o11 .nil .nil) .nil))) (.node o48 (.node o80 (.node o144 (.node o11 .nil .nil) .nil) (.node o208 (.node o12 .nil .nil) .nil)) (.node o112 (.node o176 (.node o304 .nil .nil) .nil) (.node o11 (.node o368 .nil .nil) .nil)))) (.node (o24 P) (.node o40 (.node o12 (.node o136 (.node o264 .nil .nil) .nil) (.node o200 (.node o11 .nil .nil) .nil)) (.node o104 (.node o168 (.node o11 .nil .nil) .nil) (.node o232 (.node o360 .nil .nil) .nil))) (.node o56 (.node o11 (.node (o152 P) (.node o12 .nil .nil) .nil) (.node o216 (.node o344 .nil .nil) .nil)) (.node o120 (.node o11 (.node o312 .nil .nil) .nil) (.node o248 .nil .nil))))) (.node o12_4 (.node o20 (.node o11 (.node o68 (.node o132 (.node o260 .nil .nil) .nil) (.node o12 (.node o11 .nil .nil) .nil)) (.node (o100 P) (.node (o164 P) (.node o292 .nil .nil) .nil) (.node o228 (.node o11 .nil .nil) .nil))) (.node o52 (.node o84 (.node o148 (.node o276 .nil .nil) .nil) (.node o11 (.node o340 .nil .nil) .nil)) (.node o11 (.node o180 (.node o12 .nil .nil) .nil) (.node o11 .nil .nil)))) (.node o28 (.node o12 (.node o76 (.node (o140 P) (.node o11 .nil .nil) .nil) (.node o204 (.node o332 .nil .nil) .nil)) (.node (o108 P) (.node o172 (.node o300 .nil .nil) .nil) (.node o236 (.node (o364 P) .nil .nil) .nil))) (.node o60 (.node o11 (.node o156 (.node o284 .nil .nil) .nil) (.node o220 (.node o348 .nil .nil) .nil)) (.node o124 (.node o11 (.node o316 .nil .nil) .nil) (.node o12 .nil .nil)))))) (.node (boot_o_6 P) (.node (boot_o_10 P) (.node o11 (.node o34 (.node (o66 P) (.node o12 (.node o258 .nil .nil) .nil) (.node o194 (.node o12 .nil .nil) .nil)) (.node o98 (.node o126 (.node o290 .nil .nil) .nil) (.node o11 (.node o354 .nil .nil) .nil))) (.node o11 (.node o82 (.node (o146 P) (.node o274 .nil .nil) .nil) (.node o12 (.node o11 .nil .nil) .nil)) (.node o12 (.node o178 (.node o306 .nil .nil) .nil) (.node o242 .nil .nil)))) (.node o26 (.node o42 (.node o11 (.node o126 (.node o23 .nil .nil) .nil) (.node o11 (.node (o330 P) .nil .nil) .nil)) (.node o106 (.node (o170 P) (.node o298 .nil .nil) .nil) (.node o234 (.node o362 .nil .nil) .nil))) (.node (o58 P) (.node o90 (.node o12 (.node o11 .nil .nil) .nil) (.node o218 (.node o346 .nil .nil) .nil)) (.node o122_1 (.node o186 (.node o11 .nil .nil) .nil) (.node o250 .nil .nil))))) (.node o14 (.node o11 (.node o38 (.node o70 (.node (o134 P) (.node o262 .nil .nil) .nil) (.node o11 (.node o326 .nil .nil) .nil)) (.node o102 (.node o12 (.node o12 .nil .nil) .nil) (.node o11 (.node o358 .nil .nil) .nil))) (.node o54 (.node o12 (.node o126 (.node o278 .nil .nil) .nil) (.node o214 (.node o11 .nil .nil) .nil)) (.node o118 (.node o12 (.node o11 .nil .nil) .nil) (.node o246 .nil .nil)))) (.node o12 (.node o11 (.node o11 (.node o12 (.node o270 .nil .nil) .nil) (.node o206 (.node o334 .nil .nil) .nil)) (.node o110 (.node o11 (.node o302 .nil .nil) .nil) (.node o12 (.node o366 .nil .nil) .nil))) (.node o62 (.node o94 (.node (o158 P) (.node o11 .nil .nil) .nil) (.node o222 (.node o12 .nil .nil) .nil)) (.node o126 (.node (o190 P) (.node o318 .nil .nil) .nil) (.node o11 .nil .nil))))))))
noncomputable def t32 (P : Params) : BT :=
  (.node (boot_o_0 P) (.node (boot_o_1 P) (.node (o3_4 P) (.node (boot_o_7 P) (.node o11 (.node o31 (.node o63 (.node o23 (.node o255 .nil .nil) (.node o383 .nil .nil)) (.node o11 (.node o319 .nil .nil) (.node o11 .nil .nil))) (.node o11 (.node o159 (.node o12 .nil .nil) (.node o11 .nil .nil)) (.node o11 (.node o351 .nil .nil) .nil))) (.node o47 (.node o12 (.node o143 (.node o271 .nil .nil) (.node o12 .nil .nil)) (.node o207 (.node o11 .nil .nil) .nil)) (.node o111 (.node o12 (.node o303 .nil .nil) (.node o431 .nil .nil)) (.node o239 (.node o367 .nil .nil) .nil)))) (.node o23 (.node o11 (.node o11 (.node o135 (.node o263 .nil .nil) (.node o11 .nil .nil)) (.node o199 (.node o327 .nil .nil) .nil)) (.node o103 (.node o167 (.node o295 .nil .nil) (.node o423 .nil .nil)) (.node o12 (.node o11 .nil .nil) .nil))) (.node o55 (.node o87 (.node o23 (.node o11 .nil .nil) (.node o407 .nil .nil)) (.node o215 (.node o12 .nil .nil) .nil)) (.node o119 (.node o183 (.node o311 .nil .nil) (.node o439 .nil .nil)) (.node o11 (.node o375 .nil .nil) .nil))))) (.node o11 (.node o19 (.node o35 (.node o11 (.node o131 (.node (o259 P) .nil .nil) (.node o11 .nil .nil)) (.node o11 (.node o323 .nil .nil) (.node o451 .nil .nil))) (.node o99 (.node o23 (.node o291 .nil .nil) (.node o11 .nil .nil)) (.node o227 (.node o355 .nil .nil) .nil))) (.node o12 (.node o83 (.node o147 (.node o11 .nil .nil) (.node o403 .nil .nil)) (.node o211 (.node o339 .nil .nil) .nil)) (.node o115 (.node o179 (.node o11 .nil .nil) (.node o435 .nil .nil)) (.node o243 (.node o23 .nil .nil) .nil)))) (.node o27 (.node o11 (.node o75 (.node o23 (.node (o267 P) .nil .nil) (.node o395 .nil .nil)) (.node o12 (.node o11 .nil .nil) .nil)) (.node o23 (.node o171 (.node o299 .nil .nil) (.node o12 .nil .nil)) (.node o235 (.node o363 .nil .nil) .nil))) (.node o59 (.node o91 (.node o155 (.node o283 .nil .nil) (.node o411 .nil .nil)) (.node o219 (.node o347 .nil .nil) .nil)) (.node o123 (.node o187 (.node o12 .nil .nil) (.node o443 .nil .nil)) (.node o11 (.node o379 .nil .nil) .nil)))))) (.node (boot_o_5 P) (.node (boot_o_9 P) (.node o17 (.node o33 (.node o23 (.node o11 (.node o257 .nil .nil) (.node o12 .nil .nil)) (.node o193 (.node o11 .nil .nil) (.node o449 .nil .nil))) (.node o97 (.node o161 (.node o11 .nil .nil) (.node o417 .nil .nil)) (.node (o225 P) (.node o353 .nil .nil) .nil))) (.node o49 (.node o11 (.node o11 (.node o12 .nil .nil) (.node o11 .nil .nil)) (.node o11 (.node o337 .nil .nil) .nil)) (.node o11 (.node o11 (.node o305 .nil .nil) (.node o11 .nil .nil)) (.node o241 (.node o369 .nil .nil) .nil)))) (.node o11 (.node o41 (.node o73 (.node o137 (.node o11 .nil .nil) (.node o393 .nil .nil)) (.node o201 (.node o23 .nil .nil) .nil)) (.node o105 (.node o11 (.node o297 .nil .nil) (.node o425 .nil .nil)) (.node o11 (.node o361 .nil .nil) .nil))) (.node o57 (.node o89 (.node o11 (.node o281 .nil .nil) (.node o409 .nil .nil)) (.node (o217 P) (.node o11 .nil .nil) .nil)) (.node (o121 P) (.node o185 (.node o313 .nil .nil) (.node (o441 P) .nil .nil)) (.node o249 (.node o11 .nil .nil) .nil))))) (.node o13 (.node o21 (.node o12 (.node o69 (.node o11 (.node o261 .nil .nil) (.node o389 .nil .nil)) (.node o197 (.node o325 .nil .nil) (.node o453 .nil .nil))) (.node o101 (.node o11 (.node o11 .nil .nil) (.node o421 .nil .nil)) (.node o229 (.node o12 .nil .nil) .nil))) (.node o11 (.node o11 (.node o149 (.node o277 .nil .nil) (.node o405 .nil .nil)) (.node o213 (.node o341 .nil .nil) .nil)) (.node o117 (.node o11 (.node o309 .nil .nil) (.node o437 .nil .nil)) (.node o12 (.node o11 .nil .nil) .nil)))) (.node o11 (.node o45 (.node o77 (.node o11 (.node o269 .nil .nil) (.node o397 .nil .nil)) (.node o11 (.node o333 .nil .nil) .nil)) (.node o11 (.node o173 (.node (o301 P) .nil .nil) (.node o11 .nil .nil)) (.node o11 (.node o365 .nil .nil) .nil))) (.node o61 (.node o12 (.node o11 (.node o285 .nil .nil) (.node o23 .nil .nil)) (.node o221 (.node o11 .nil .nil) .nil)) (.node o125 (.node o23 (.node o11 .nil .nil) (.node o445 .nil .nil)) (.node o253 (.node o381 .nil .nil) .nil))))))) (.node (o2 P) (.node (boot_o_4 P) (.node (boot_o_8 P) (.node o12 (.node o11 (.node o11 (.node (o128 P) (.node o256 .nil .nil) (.node o11 .nil .nil)) (.node o192 (.node o320 .nil .nil) (.node o12 .nil .nil))) (.node o96 (.node o160 (.node o288 .nil .nil) (.node o416 .nil .nil)) (.node o23 (.node o11 .nil .nil) .nil))) (.node o48 (.node o80 (.node o144 (.node o11 .nil .nil) (.node o400 .nil .nil)) (.node o208 (.node o12 .nil .nil) .nil)) (.node o112 (.node o176 (.node o304 .nil .nil) (.node o432 .nil .nil)) (.node o11 (.node o368 .nil .nil) .nil)))) (.node (o24 P) (.node o40 (.node o12 (.node o136 (.node o264 .nil .nil) (.node o12 .nil .nil)) (.node o200 (.node o11 .nil .nil) .nil)) (.node o104 (.node o168 (.node o11 .nil .nil) (.node o424 .nil .nil)) (.node o232 (.node o360 .nil .nil) .nil))) (.node o56 (.node o11 (.node (o152 P) (.node o12 .nil .nil) (.node o408 .nil .nil)) (.node o216 (.node o344 .nil .nil) .nil)) (.node o120 (.node o11 (.node o312 .nil .nil) (.node o440 .nil .nil)) (.node o248 (.node o376 .nil .nil) .nil))))) (.node o12_5 (.node o20 (.node o11 (.node o68 (.node o132 (.node o260 .nil .nil) (.node o388 .nil .nil)) (.node o12 (.node o11 .nil .nil) (.node o452 .nil .nil))) (.node (o100 P) (.node (o164 P) (.node o292 .nil .nil) (.node o12 .nil .nil)) (.node o228 (.node o11 .nil .nil) .nil))) (.node o52 (.node o84 (.node o148 (.node o276 .nil .nil) (.node o404 .nil .nil)) (.node o11 (.node o340 .nil .nil) .nil)) (.node o11 (.node o180 (.node o12 .nil .nil) (.node o11 .nil .nil)) (.node o11 (.node (o372 P) .nil .nil) .nil)))) (.node o28 (.node o12 (.node o76 (.node (o140 P) (.node o11 .nil .nil) (.node o396 .nil .nil)) (.node o204 (.node o332 .nil .nil) .nil)) (.node (o108 P) (.node o172 (.node o300 .nil .nil) (.node o428 .nil .nil)) (.node o236 (.node (o364 P) .nil .nil) .nil))) (.node o60 (.node o11 (.node o156 (.node o284 .nil .nil) (.node o11 .nil .nil)) (.node o220 (.node o348 .nil .nil) .nil)) (.node o124 (.node o11 (.node o316 .nil .nil) (.node o444 .nil .nil)) (.node o12 (.node o11 .nil .nil) .nil)))))) (.node (boot_o_6 P) (.node (boot_o_10 P) (.node o11 (.node o34 (.node (o66 P) (.node o12 (.node o258 .nil .nil) (.node o386 .nil .nil)) (.node o194 (.node o12 .nil .nil) (.node o11 .nil .nil))) (.node o98 (.node o126 (.node o290 .nil .nil) (.node o418 .nil .nil)) (.node o11 (.node o354 .nil .nil) .nil))) (.node o11 (.node o82 (.node (o146 P) (.node o274 .nil .nil) (.node o402 .nil .nil)) (.node o12 (.node o11 .nil .nil) .nil)) (.node o12 (.node o178 (.node o306 .nil .nil) (.node o12 .nil .nil)) (.node o242 (.node o11 .nil .nil) .nil)))) (.node o26 (.node o42 (.node o11 (.node o126 (.node o23 .nil .nil) (.node o11 .nil .nil)) (.node o11 (.node (o330 P) .nil .nil) .nil)) (.node o106 (.node (o170 P) (.node o298 .nil .nil) (.node o11 .nil .nil)) (.node o234 (.node o362 .nil .nil) .nil))) (.node (o58 P) (.node o90 (.node o12 (.node o11 .nil .nil) (.node o410 .nil .nil)) (.node o218 (.node o346 .nil .nil) .nil)) (.node o122_1 (.node o186 (.node o11 .nil .nil) (.node o442 .nil .nil)) (.node o250 (.node o12 .nil .nil) .nil))))) (.node o14 (.node o11 (.node o38 (.node o70 (.node (o134 P) (.node o262 .nil .nil) (.node o390 .nil .nil)) (.node o11 (.node o326 .nil .nil) .nil)) (.node o102 (.node o12 (.node o12 .nil .nil) (.node o11 .nil .nil)) (.node o11 (.node o358 .nil .nil) .nil))) (.node o54 (.node o12 (.node o126 (.node o278 .nil .nil) (.node (o406 P) .nil .nil)) (.node o214 (.node o11 .nil .nil) .nil)) (.node o118 (.node o12 (.node o11 .nil .nil) (.node o438 .nil .nil)) (.node o246 (.node o374 .nil .nil) .nil)))) (.node o12 (.node o11 (.node o11 (.node o12 (.node o270 .nil .nil) (.node o11 .nil .nil)) (.node o206 (.node o334 .nil .nil) .nil)) (.node o110 (.node o11 (.node o302 .nil .nil) (.node o430 .nil .nil)) (.node o12 (.node o366 .nil .nil) .nil))) (.node o62 (.node o94 (.node (o158 P) (.node o11 .nil .nil) (.node (o414 P) .nil .nil)) (.node o222 (.node o12 .nil .nil) .nil)) (.node o126 (.node (o190 P) (.node o318 .nil .nil) (.node o446 .nil .nil)) (.node o11 (.node o382 .nil .nil) .nil))))))))
noncomputable def t36 (P : Params) : BT :=
  (.node (boot_o_0 P) (.node (boot_o_1 P) (.node (o3_5 P) (.node (boot_o_7 P) (.node o11 (.node o31 (.node o63 (.node o23 (.node o255 (.node o12 .nil .nil) .nil) (.node o383 .nil .nil)) (.node o11 (.node o319 (.node o575 .nil .nil) .nil) (.node o11 .nil .nil))) (.node o11 (.node o159 (.node o12 (.node o543 .nil .nil) .nil) (.node o11 .nil .nil)) (.node o11 (.node o351 .nil .nil) (.node o479 .nil .nil)))) (.node o47 (.node o12 (.node o143 (.node o271 (.node o11 .nil .nil) .nil) (.node o12 .nil .nil)) (.node o207 (.node o11 .nil .nil) (.node o463 .nil .nil))) (.node o111 (.node o12 (.node o303 (.node o11 .nil .nil) .nil) (.node o431 .nil .nil)) (.node o239 (.node o367 .nil .nil) (.node o495 .nil .nil))))) (.node o23 (.node o11 (.node o11 (.node o135 (.node o263 (.node o519 .nil .nil) .nil) (.node o11 .nil .nil)) (.node o199 (.node o327 (.node o583 .nil .nil) .nil) (.node o23 .nil .nil))) (.node o103 (.node o167 (.node o295 (.node o551 .nil .nil) .nil) (.node o423 .nil .nil)) (.node o12 (.node o11 .nil .nil) (.node o487 .nil .nil)))) (.node o55 (.node o87 (.node o23 (.node o11 (.node o535 .nil .nil) .nil) (.node o407 .nil .nil)) (.node o215 (.node o12 .nil .nil) (.node o11 .nil .nil))) (.node o119 (.node o183 (.node o311 (.node o12 .nil .nil) .nil) (.node o439 .nil .nil)) (.node o11 (.node o375 .nil .nil) (.node o11 .nil .nil)))))) (.node o11 (.node o19 (.node o35 (.node o11 (.node o131 (.node (o259 P) (.node o515 .nil .nil) .nil) (.node o11 .nil .nil)) (.node o11 (.node o323 (.node o579 .nil .nil) .nil) (.node o451 .nil .nil))) (.node o99 (.node o23 (.node o291 (.node (o547 P) .nil .nil) .nil) (.node o11 .nil .nil)) (.node o227 (.node o355 .nil .nil) (.node o12 .nil .nil)))) (.node o12 (.node o83 (.node o147 (.node o11 (.node o11 .nil .nil) .nil) (.node o403 .nil .nil)) (.node o211 (.node o339 .nil .nil) (.node o467 .nil .nil))) (.node o115 (.node o179 (.node o11 (.node o563 .nil .nil) .nil) (.node o435 .nil .nil)) (.node o243 (.node o23 .nil .nil) (.node o11 .nil .nil))))) (.node o27 (.node o11 (.node o75 (.node o23 (.node (o267 P) (.node o523 .nil .nil) .nil) (.node o395 .nil .nil)) (.node o12 (.node o11 .nil .nil) (.node o459 .nil .nil))) (.node o23 (.node o171 (.node o299 (.node o11 .nil .nil) .nil) (.node o12 .nil .nil)) (.node o235 (.node o363 .nil .nil) (.node o491 .nil .nil)))) (.node o59 (.node o91 (.node o155 (.node o283 (.node (o539 P) .nil .nil) .nil) (.node o411 .nil .nil)) (.node o219 (.node o347 .nil .nil) (.node o11 .nil .nil))) (.node o123 (.node o187 (.node o12 (.node o571 .nil .nil) .nil) (.node o443 .nil .nil)) (.node o11 (.node o379 .nil .nil) (.node o507 .nil .nil))))))) (.node (boot_o_5 P) (.node (boot_o_9 P) (.node o17 (.node o33 (.node o23 (.node o11 (.node o257 (.node o11 .nil .nil) .nil) (.node o12 .nil .nil)) (.node o193 (.node o11 (.node o577 .nil .nil) .nil) (.node o449 .nil .nil))) (.node o97 (.node o161 (.node o11 (.node o11 .nil .nil) .nil) (.node o417 .nil .nil)) (.node (o225 P) (.node o353 .nil .nil) (.node o481 .nil .nil)))) (.node o49 (.node o11 (.node o11 (.node o12 (.node o529 .nil .nil) .nil) (.node o11 .nil .nil)) (.node o11 (.node o337 .nil .nil) (.node o465 .nil .nil))) (.node o11 (.node o11 (.node o305 (.node o561 .nil .nil) .nil) (.node o11 .nil .nil)) (.node o241 (.node o369 .nil .nil) (.node o23 .nil .nil))))) (.node o11 (.node o41 (.node o73 (.node o137 (.node o11 (.node o521 .nil .nil) .nil) (.node o393 .nil .nil)) (.node o201 (.node o23 (.node o585 .nil .nil) .nil) (.node o11 .nil .nil))) (.node o105 (.node o11 (.node o297 (.node o12 .nil .nil) .nil) (.node o425 .nil .nil)) (.node o11 (.node o361 .nil .nil) (.node o489 .nil .nil)))) (.node o57 (.node o89 (.node o11 (.node o281 (.node o537 .nil .nil) .nil) (.node o409 .nil .nil)) (.node (o217 P) (.node o11 .nil .nil) (.node o473 .nil .nil))) (.node (o121 P) (.node o185 (.node o313 (.node o11 .nil .nil) .nil) (.node (o441 P) .nil .nil)) (.node o249 (.node o11 .nil .nil) (.node o505 .nil .nil)))))) (.node o13 (.node o21 (.node o12 (.node o69 (.node o11 (.node o261 (.node o11 .nil .nil) .nil) (.node o389 .nil .nil)) (.node o197 (.node o325 (.node (o581 P) .nil .nil) .nil) (.node o453 .nil .nil))) (.node o101 (.node o11 (.node o11 (.node o549 .nil .nil) .nil) (.node o421 .nil .nil)) (.node o229 (.node o12 .nil .nil) (.node o11 .nil .nil)))) (.node o11 (.node o11 (.node o149 (.node o277 (.node o533 .nil .nil) .nil) (.node o405 .nil .nil)) (.node o213 (.node o341 .nil .nil) (.node o12 .nil .nil))) (.node o117 (.node o11 (.node o309 (.node o565 .nil .nil) .nil) (.node o437 .nil .nil)) (.node o12 (.node o11 .nil .nil) (.node o501 .nil .nil))))) (.node o11 (.node o45 (.node o77 (.node o11 (.node o269 (.node o12 .nil .nil) .nil) (.node o397 .nil .nil)) (.node o11 (.node o333 .nil .nil) (.node o11 .nil .nil))) (.node o11 (.node o173 (.node (o301 P) (.node o557 .nil .nil) .nil) (.node o11 .nil .nil)) (.node o11 (.node o365 .nil .nil) (.node o493 .nil .nil)))) (.node o61 (.node o12 (.node o11 (.node o285 (.node o541 .nil .nil) .nil) (.node o23 .nil .nil)) (.node o221 (.node o11 .nil .nil) (.node o477 .nil .nil))) (.node o125 (.node o23 (.node o11 (.node o11 .nil .nil) .nil) (.node o445 .nil .nil)) (.node o253 (.node o381 .nil .nil) (.node o509 .nil .nil)))))))) (.node (o2 P) (.node (boot_o_4 P) (.node (boot_o_8 P) (.node o12 (.node o11 (.node o11 (.node (o128 P) (.node o256 (.node o512 .nil .nil) .nil) (.node o11 .nil .nil)) (.node o192 (.node o320 (.node o11 .nil .nil) .nil) (.node o12 .nil .nil))) (.node o96 (.node o160 (.node o288 (.node o544 .nil .nil) .nil) (.node o416 .nil .nil)) (.node o23 (.node o11 .nil .nil) (.node o480 .nil .nil)))) (.node o48 (.node o80 (.node o144 (.node o11 (.node o528 .nil .nil) .nil) (.node o400 .nil .nil)) (.node o208 (.node o12 .nil .nil) (.node o11 .nil .nil))) (.node o112 (.node o176 (.node o304 (.node o12 .nil .nil) .nil) (.node o432 .nil .nil)) (.node o11 (.node o368 .nil .nil) (.node o11 .nil .nil))))) (.node (o24 P) (.node o40 (.node o12 (.node o136 (.node o264 (.node o11 .nil .nil) .nil) (.node o12 .nil .nil)) (.node o200 (.node o11 (.node o584 .nil .nil) .nil) (.node (o456 P) .nil .nil))) (.node o104 (.node o168 (.node o11 (.node o11 .nil .nil) .nil) (.node o424 .nil .nil)) (.node o232 (.node o360 .nil .nil) (.node o488 .nil .nil)))) (.node o56 (.node o11 (.node (o152 P) (.node o12 (.node o536 .nil .nil) .nil) (.node o408 .nil .nil)) (.node o216 (.node o344 .nil .nil) (.node o472 .nil .nil))) (.node o120 (.node o11 (.node o312 (.node o568 .nil .nil) .nil) (.node o440 .nil .nil)) (.node o248 (.node o376 .nil .nil) (.node o12 .nil .nil)))))) (.node o12_6 (.node o20 (.node o11 (.node o68 (.node o132 (.node o260 (.node o516 .nil .nil) .nil) (.node o388 .nil .nil)) (.node o12 (.node o11 (.node o580 .nil .nil) .nil) (.node o452 .nil .nil))) (.node (o100 P) (.node (o164 P) (.node o292 (.node o11 .nil .nil) .nil) (.node o12 .nil .nil)) (.node o228 (.node o11 .nil .nil) (.node o484 .nil .nil)))) (.node o52 (.node o84 (.node o148 (.node o276 (.node o12 .nil .nil) .nil) (.node o404 .nil .nil)) (.node o11 (.node o340 .nil .nil) (.node o11 .nil .nil))) (.node o11 (.node o180 (.node o12 (.node o564 .nil .nil) .nil) (.node o11 .nil .nil)) (.node o11 (.node (o372 P) .nil .nil) (.node o500 .nil .nil))))) (.node o28 (.node o12 (.node o76 (.node (o140 P) (.node o11 (.node o11 .nil .nil) .nil) (.node o396 .nil .nil)) (.node o204 (.node o332 .nil .nil) (.node o460 .nil .nil))) (.node (o108 P) (.node o172 (.node o300 (.node o556 .nil .nil) .nil) (.node o428 .nil .nil)) (.node o236 (.node (o364 P) .nil .nil) (.node o492 .nil .nil)))) (.node o60 (.node o11 (.node o156 (.node o284 (.node o540 .nil .nil) .nil) (.node o11 .nil .nil)) (.node o220 (.node o348 .nil .nil) (.node o12 .nil .nil))) (.node o124 (.node o11 (.node o316 (.node o572 .nil .nil) .nil) (.node o444 .nil .nil)) (.node o12 (.node o11 .nil .nil) (.node o508 .nil .nil))))))) (.node (boot_o_6 P) (.node (boot_o_10 P) (.node o11 (.node o34 (.node (o66 P) (.node o12 (.node o258 (.node o514 .nil .nil) .nil) (.node o386 .nil .nil)) (.node o194 (.node o12 (.node o578 .nil .nil) .nil) (.node o11 .nil .nil))) (.node o98 (.node o126 (.node o290 (.node o23 .nil .nil) .nil) (.node o418 .nil .nil)) (.node o11 (.node o354 .nil .nil) (.node o11 .nil .nil)))) (.node o11 (.node o82 (.node (o146 P) (.node o274 (.node o530 .nil .nil) .nil) (.node o402 .nil .nil)) (.node o12 (.node o11 .nil .nil) (.node o466 .nil .nil))) (.node o12 (.node o178 (.node o306 (.node o11 .nil .nil) .nil) (.node o12 .nil .nil)) (.node o242 (.node o11 .nil .nil) (.node (o498 P) .nil .nil))))) (.node o26 (.node o42 (.node o11 (.node o126 (.node o23 (.node o522 .nil .nil) .nil) (.node o11 .nil .nil)) (.node o11 (.node (o330 P) (.node o586 .nil .nil) .nil) (.node o458 .nil .nil))) (.node o106 (.node (o170 P) (.node o298 (.node o554 .nil .nil) .nil) (.node o11 .nil .nil)) (.node o234 (.node o362 .nil .nil) (.node (o490 P) .nil .nil)))) (.node (o58 P) (.node o90 (.node o12 (.node o11 (.node o538 .nil .nil) .nil) (.node o410 .nil .nil)) (.node o218 (.node o346 .nil .nil) (.node o474 .nil .nil))) (.node o122_1 (.node o186 (.node o11 (.node o570 .nil .nil) .nil) (.node o442 .nil .nil)) (.node o250 (.node o12 .nil .nil) (.node o11 .nil .nil)))))) (.node o14 (.node o11 (.node o38 (.node o70 (.node (o134 P) (.node o262 (.node o12 .nil .nil) .nil) (.node o390 .nil .nil)) (.node o11 (.node o326 (.node o582 .nil .nil) .nil) (.node o11 .nil .nil))) (.node o102 (.node o12 (.node o12 (.node o550 .nil .nil) .nil) (.node o11 .nil .nil)) (.node o11 (.node o358 .nil .nil) (.node o486 .nil .nil)))) (.node o54 (.node o12 (.node o126 (.node o278 (.node o11 .nil .nil) .nil) (.node (o406 P) .nil .nil)) (.node o214 (.node o11 .nil .nil) (.node o470 .nil .nil))) (.node o118 (.node o12 (.node o11 (.node o11 .nil .nil) .nil) (.node o438 .nil .nil)) (.node o246 (.node o374 .nil .nil) (.node o502 .nil .nil))))) (.node o12 (.node o11 (.node o11 (.node o12 (.node o270 (.node o526 .nil .nil) .nil) (.node o11 .nil .nil)) (.node o206 (.node o334 .nil .nil) (.node o12 .nil .nil))) (.node o110 (.node o11 (.node o302 (.node o558 .nil .nil) .nil) (.node o430 .nil .nil)) (.node o12 (.node o366 .nil .nil) (.node o494 .nil .nil)))) (.node o62 (.node o94 (.node (o158 P) (.node o11 (.node o542 .nil .nil) .nil) (.node (o414 P) .nil .nil)) (.node o222 (.node o12 .nil .nil) (.node o11 .nil .nil))) (.node o126 (.node (o190 P) (.node o318 (.node o12 .nil .nil) .nil) (.node o446 .nil .nil)) (.node o11 (.node o382 .nil .nil) (.node o11 .nil .nil)))))))))
noncomputable def t48 (P : Params) : BT :=
  (.node (boot_o_0 P) (.node (boot_o_1 P) (.node (o3_6 P) (.node (boot_o_7 P) (.node o11 (.node o31 (.node o63 (.node o23 (.node o255 (.node o12 .nil .nil) .nil) (.node o383 (.node o639 .nil .nil) .nil)) (.node o11 (.node o319 (.node o575 .nil .nil) .nil) (.node o11 .nil .nil))) (.node o11 (.node o159 (.node o12 (.node o543 .nil .nil) .nil) (.node o11 .nil .nil)) (.node o11 (.node o351 (.node o12 .nil .nil) .nil) (.node o479 .nil .nil)))) (.node o47 (.node o12 (.node o143 (.node o271 (.node o11 .nil .nil) .nil) (.node o12 .nil .nil)) (.node o207 (.node o11 (.node o591 .nil .nil) .nil) (.node o463 .nil .nil))) (.node o111 (.node o12 (.node o303 (.node o11 .nil .nil) .nil) (.node o431 .nil .nil)) (.node o239 (.node o367 (.node o11 .nil .nil) .nil) (.node o495 .nil .nil))))) (.node o23 (.node o11 (.node o11 (.node o135 (.node o263 (.node o519 .nil .nil) .nil) (.node o11 (.node o11 .nil .nil) .nil)) (.node o199 (.node o327 (.node o583 .nil .nil) .nil) (.node o23 .nil .nil))) (.node o103 (.node o167 (.node o295 (.node o551 .nil .nil) .nil) (.node o423 .nil .nil)) (.node o12 (.node o11 (.node o615 .nil .nil) .nil) (.node o487 .nil .nil)))) (.node o55 (.node o87 (.node o23 (.node o11 (.node o535 .nil .nil) .nil) (.node o407 .nil .nil)) (.node o215 (.node o12 (.node o599 .nil .nil) .nil) (.node o11 .nil .nil))) (.node o119 (.node o183 (.node o311 (.node o12 .nil .nil) .nil) (.node o439 .nil .nil)) (.node o11 (.node o375 (.node o12 .nil .nil) .nil) (.node o11 .nil .nil)))))) (.node o11 (.node o19 (.node o35 (.node o11 (.node o131 (.node (o259 P) (.node o515 .nil .nil) .nil) (.node o11 (.node o12 .nil .nil) .nil)) (.node o11 (.node o323 (.node o579 .nil .nil) .nil) (.node o451 .nil .nil))) (.node o99 (.node o23 (.node o291 (.node (o547 P) .nil .nil) .nil) (.node o11 .nil .nil)) (.node o227 (.node o355 (.node o11 .nil .nil) .nil) (.node o12 .nil .nil)))) (.node o12 (.node o83 (.node o147 (.node o11 (.node o11 .nil .nil) .nil) (.node o403 .nil .nil)) (.node o211 (.node o339 (.node o12 .nil .nil) .nil) (.node o467 .nil .nil))) (.node o115 (.node o179 (.node o11 (.node o563 .nil .nil) .nil) (.node o435 .nil .nil)) (.node o243 (.node o23 (.node o627 .nil .nil) .nil) (.node o11 .nil .nil))))) (.node o27 (.node o11 (.node o75 (.node o23 (.node (o267 P) (.node o523 .nil .nil) .nil) (.node o395 (.node o651 .nil .nil) .nil)) (.node o12 (.node o11 (.node o11 .nil .nil) .nil) (.node o459 .nil .nil))) (.node o23 (.node o171 (.node o299 (.node o11 .nil .nil) .nil) (.node o12 .nil .nil)) (.node o235 (.node o363 (.node o11 .nil .nil) .nil) (.node o491 .nil .nil)))) (.node o59 (.node o91 (.node o155 (.node o283 (.node (o539 P) .nil .nil) .nil) (.node o411 .nil .nil)) (.node o219 (.node o347 (.node o603 .nil .nil) .nil) (.node o11 .nil .nil))) (.node o123 (.node o187 (.node o12 (.node o571 .nil .nil) .nil) (.node o443 .nil .nil)) (.node o11 (.node o379 (.node o635 .nil .nil) .nil) (.node o507 .nil .nil))))))) (.node (boot_o_5 P) (.node (boot_o_9 P) (.node o17 (.node o33 (.node o23 (.node o11 (.node o257 (.node o11 .nil .nil) .nil) (.node o12 (.node o641 .nil .nil) .nil)) (.node o193 (.node o11 (.node o577 .nil .nil) .nil) (.node o449 .nil .nil))) (.node o97 (.node o161 (.node o11 (.node o11 .nil .nil) .nil) (.node o417 .nil .nil)) (.node (o225 P) (.node o353 (.node o609 .nil .nil) .nil) (.node o481 .nil .nil)))) (.node o49 (.node o11 (.node o11 (.node o12 (.node o529 .nil .nil) .nil) (.node o11 .nil .nil)) (.node o11 (.node o337 (.node o593 .nil .nil) .nil) (.node o465 .nil .nil))) (.node o11 (.node o11 (.node o305 (.node o561 .nil .nil) .nil) (.node o11 .nil .nil)) (.node o241 (.node o369 (.node o625 .nil .nil) .nil) (.node o23 .nil .nil))))) (.node o11 (.node o41 (.node o73 (.node o137 (.node o11 (.node o521 .nil .nil) .nil) (.node o393 (.node o649 .nil .nil) .nil)) (.node o201 (.node o23 (.node o585 .nil .nil) .nil) (.node o11 .nil .nil))) (.node o105 (.node o11 (.node o297 (.node o12 .nil .nil) .nil) (.node o425 .nil .nil)) (.node o11 (.node o361 (.node o12 .nil .nil) .nil) (.node o489 .nil .nil)))) (.node o57 (.node o89 (.node o11 (.node o281 (.node o537 .nil .nil) .nil) (.node o409 .nil .nil)) (.node (o217 P) (.node o11 (.node o11 .nil .nil) .nil) (.node o473 .nil .nil))) (.node (o121 P) (.node o185 (.node o313 (.node o11 .nil .nil) .nil) (.node (o441 P) .nil .nil)) (.node o249 (.node o11 (.node o11 .nil .nil) .nil) (.node o505 .nil .nil)))))) (.node o13 (.node o21 (.node o12 (.node o69 (.node o11 (.node o261 (.node o11 .nil .nil) .nil) (.node o389 (.node o645 .nil .nil) .nil)) (.node o197 (.node o325 (.node (o581 P) .nil .nil) .nil) (.node o453 .nil .nil))) (.node o101 (.node o11 (.node o11 (.node o549 .nil .nil) .nil) (.node o421 .nil .nil)) (.node o229 (.node o12 (.node o613 .nil .nil) .nil) (.node o11 .nil .nil)))) (.node o11 (.node o11 (.node o149 (.node o277 (.node o533 .nil .nil) .nil) (.node o405 .nil .nil)) (.node o213 (.node o341 (.node o11 .nil .nil) .nil) (.node o12 .nil .nil))) (.node o117 (.node o11 (.node o309 (.node o565 .nil .nil) .nil) (.node o437 .nil .nil)) (.node o12 (.node o11 (.node o629 .nil .nil) .nil) (.node o501 .nil .nil))))) (.node o11 (.node o45 (.node o77 (.node o11 (.node o269 (.node o12 .nil .nil) .nil) (.node o397 .nil .nil)) (.node o11 (.node o333 (.node o589 .nil .nil) .nil) (.node o11 .nil .nil))) (.node o11 (.node o173 (.node (o301 P) (.node o557 .nil .nil) .nil) (.node o11 .nil .nil)) (.node o11 (.node o365 (.node o621 .nil .nil) .nil) (.node o493 .nil .nil)))) (.node o61 (.node o12 (.node o11 (.node o285 (.node o541 .nil .nil) .nil) (.node o23 .nil .nil)) (.node o221 (.node o11 (.node o605 .nil .nil) .nil) (.node o477 .nil .nil))) (.node o125 (.node o23 (.node o11 (.node o11 .nil .nil) .nil) (.node o445 .nil .nil)) (.node o253 (.node o381 (.node o11 .nil .nil) .nil) (.node o509 .nil .nil)))))))) (.node (o2 P) (.node (boot_o_4 P) (.node (boot_o_8 P) (.node o12 (.node o11 (.node o11 (.node (o128 P) (.node o256 (.node o512 .nil .nil) .nil) (.node o11 (.node o640 .nil .nil) .nil)) (.node o192 (.node o320 (.node o11 .nil .nil) .nil) (.node o12 .nil .nil))) (.node o96 (.node o160 (.node o288 (.node o544 .nil .nil) .nil) (.node o416 .nil .nil)) (.node o23 (.node o11 (.node o608 .nil .nil) .nil) (.node o480 .nil .nil)))) (.node o48 (.node o80 (.node o144 (.node o11 (.node o528 .nil .nil) .nil) (.node o400 .nil .nil)) (.node o208 (.node o12 (.node o592 .nil .nil) .nil) (.node o11 .nil .nil))) (.node o112 (.node o176 (.node o304 (.node o12 .nil .nil) .nil) (.node o432 .nil .nil)) (.node o11 (.node o368 (.node o12 .nil .nil) .nil) (.node o11 .nil .nil))))) (.node (o24 P) (.node o40 (.node o12 (.node o136 (.node o264 (.node o11 .nil .nil) .nil) (.node o12 (.node o12 .nil .nil) .nil)) (.node o200 (.node o11 (.node o584 .nil .nil) .nil) (.node (o456 P) .nil .nil))) (.node o104 (.node o168 (.node o11 (.node o11 .nil .nil) .nil) (.node o424 .nil .nil)) (.node o232 (.node o360 (.node o11 .nil .nil) .nil) (.node o488 .nil .nil)))) (.node o56 (.node o11 (.node (o152 P) (.node o12 (.node o536 .nil .nil) .nil) (.node o408 .nil .nil)) (.node o216 (.node o344 (.node o600 .nil .nil) .nil) (.node o472 .nil .nil))) (.node o120 (.node o11 (.node o312 (.node o568 .nil .nil) .nil) (.node o440 .nil .nil)) (.node o248 (.node o376 (.node o632 .nil .nil) .nil) (.node o12 .nil .nil)))))) (.node o12_7 (.node o20 (.node o11 (.node o68 (.node o132 (.node o260 (.node o516 .nil .nil) .nil) (.node o388 (.node o644 .nil .nil) .nil)) (.node o12 (.node o11 (.node o580 .nil .nil) .nil) (.node o452 .nil .nil))) (.node (o100 P) (.node (o164 P) (.node o292 (.node o11 .nil .nil) .nil) (.node o12 .nil .nil)) (.node o228 (.node o11 (.node o12 .nil .nil) .nil) (.node o484 .nil .nil)))) (.node o52 (.node o84 (.node o148 (.node o276 (.node o12 .nil .nil) .nil) (.node o404 .nil .nil)) (.node o11 (.node o340 (.node o596 .nil .nil) .nil) (.node o11 .nil .nil))) (.node o11 (.node o180 (.node o12 (.node o564 .nil .nil) .nil) (.node o11 .nil .nil)) (.node o11 (.node (o372 P) (.node o628 .nil .nil) .nil) (.node o500 .nil .nil))))) (.node o28 (.node o12 (.node o76 (.node (o140 P) (.node o11 (.node o11 .nil .nil) .nil) (.node o396 .nil .nil)) (.node o204 (.node o332 (.node o12 .nil .nil) .nil) (.node o460 .nil .nil))) (.node (o108 P) (.node o172 (.node o300 (.node o556 .nil .nil) .nil) (.node o428 .nil .nil)) (.node o236 (.node (o364 P) (.node o620 .nil .nil) .nil) (.node o492 .nil .nil)))) (.node o60 (.node o11 (.node o156 (.node o284 (.node o540 .nil .nil) .nil) (.node o11 .nil .nil)) (.node o220 (.node o348 (.node o604 .nil .nil) .nil) (.node o12 .nil .nil))) (.node o124 (.node o11 (.node o316 (.node o572 .nil .nil) .nil) (.node o444 .nil .nil)) (.node o12 (.node o11 (.node o636 .nil .nil) .nil) (.node o508 .nil .nil))))))) (.node (boot_o_6 P) (.node (boot_o_10 P) (.node o11 (.node o34 (.node (o66 P) (.node o12 (.node o258 (.node o514 .nil .nil) .nil) (.node o386 (.node o11 .nil .nil) .nil)) (.node o194 (.node o12 (.node o578 .nil .nil) .nil) (.node o11 .nil .nil))) (.node o98 (.node o126 (.node o290 (.node o23 .nil .nil) .nil) (.node o418 .nil .nil)) (.node o11 (.node o354 (.node o610 .nil .nil) .nil) (.node o11 .nil .nil)))) (.node o11 (.node o82 (.node (o146 P) (.node o274 (.node o530 .nil .nil) .nil) (.node o402 .nil .nil)) (.node o12 (.node o11 (.node o11 .nil .nil) .nil) (.node o466 .nil .nil))) (.node o12 (.node o178 (.node o306 (.node o11 .nil .nil) .nil) (.node o12 .nil .nil)) (.node o242 (.node o11 (.node o11 .nil .nil) .nil) (.node (o498 P) .nil .nil))))) (.node o26 (.node o42 (.node o11 (.node o126 (.node o23 (.node o522 .nil .nil) .nil) (.node o11 (.node o650 .nil .nil) .nil)) (.node o11 (.node (o330 P) (.node o586 .nil .nil) .nil) (.node o458 .nil .nil))) (.node o106 (.node (o170 P) (.node o298 (.node o554 .nil .nil) .nil) (.node o11 .nil .nil)) (.node o234 (.node o362 (.node o618 .nil .nil) .nil) (.node (o490 P) .nil .nil)))) (.node (o58 P) (.node o90 (.node o12 (.node o11 (.node o538 .nil .nil) .nil) (.node o410 .nil .nil)) (.node o218 (.node o346 (.node o12 .nil .nil) .nil) (.node o474 .nil .nil))) (.node o122_1 (.node o186 (.node o11 (.node o570 .nil .nil) .nil) (.node o442 .nil .nil)) (.node o250 (.node o12 (.node o634 .nil .nil) .nil) (.node o11 .nil .nil)))))) (.node o14 (.node o11 (.node o38 (.node o70 (.node (o134 P) (.node o262 (.node o12 .nil .nil) .nil) (.node o390 (.node o646 .nil .nil) .nil)) (.node o11 (.node o326 (.node o582 .nil .nil) .nil) (.node o11 .nil .nil))) (.node o102 (.node o12 (.node o12 (.node o550 .nil .nil) .nil) (.node o11 .nil .nil)) (.node o11 (.node o358 (.node o614 .nil .nil) .nil) (.node o486 .nil .nil)))) (.node o54 (.node o12 (.node o126 (.node o278 (.node o11 .nil .nil) .nil) (.node (o406 P) .nil .nil)) (.node o214 (.node o11 (.node o598 .nil .nil) .nil) (.node o470 .nil .nil))) (.node o118 (.node o12 (.node o11 (.node o11 .nil .nil) .nil) (.node o438 .nil .nil)) (.node o246 (.node o374 (.node o11 .nil .nil) .nil) (.node o502 .nil .nil))))) (.node o12 (.node o11 (.node o11 (.node o12 (.node o270 (.node o526 .nil .nil) .nil) (.node o11 .nil .nil)) (.node o206 (.node o334 (.node o11 .nil .nil) .nil) (.node o12 .nil .nil))) (.node o110 (.node o11 (.node o302 (.node o558 .nil .nil) .nil) (.node o430 .nil .nil)) (.node o12 (.node o366 (.node o622 .nil .nil) .nil) (.node o494 .nil .nil)))) (.node o62 (.node o94 (.node (o158 P) (.node o11 (.node o542 .nil .nil) .nil) (.node (o414 P) .nil .nil)) (.node o222 (.node o12 (.node o11 .nil .nil) .nil) (.node o11 .nil .nil))) (.node o126 (.node (o190 P) (.node o318 (.node o12 .nil .nil) .nil) (.node o446 .nil .nil)) (.node o11 (.node o382 (.node o12 .nil .nil) .nil) (.node o11 .nil .nil)))))))))
noncomputable def kk : Params → Frag := fun P => (nat_lit 2, (o2 P)) ::
  (nat_lit 3, (o3_6 P)) ::
  (nat_lit 15, o11) ::
  (nat_lit 17, o17) ::
  (nat_lit 18, o11) ::
  (nat_lit 20, o20) ::
  (nat_lit 21, o21) ::
  (nat_lit 29, o11) ::
  (nat_lit 31, o31) ::
  (nat_lit 32, o11) ::
  (nat_lit 34, o34) ::
  (nat_lit 35, o35) ::
  (nat_lit 36, o11) ::
  (nat_lit 38, o38) ::
  (nat_lit 39, o11) ::
  (nat_lit 41, o41) ::
  (nat_lit 42, o42) ::
  (nat_lit 43, o11) ::
  (nat_lit 45, o45) ::
  (nat_lit 46, o11) ::
  (nat_lit 48, o48) ::
  (nat_lit 49, o49) ::
  (nat_lit 50, o11) ::
  (nat_lit 52, o52) ::
  (nat_lit 53, o11) ::
  (nat_lit 55, o55) ::
  (nat_lit 56, o56) ::
  (nat_lit 57, o57) ::
  (nat_lit 58, (o58 P)) ::
  (nat_lit 59, o59) ::
  (nat_lit 60, o60) ::
  (nat_lit 61, o61) ::
  (nat_lit 71, o11) ::
  (nat_lit 73, o73) ::
  (nat_lit 74, o11) ::
  (nat_lit 76, o76) ::
  (nat_lit 77, o77) ::
  (nat_lit 78, o11) ::
  (nat_lit 80, o80) ::
  (nat_lit 81, o11) ::
  (nat_lit 83, o83) ::
  (nat_lit 84, o84) ::
  (nat_lit 85, o11) ::
  (nat_lit 87, o87) ::
  (nat_lit 88, o11) ::
  (nat_lit 90, o90) ::
  (nat_lit 91, o91) ::
  (nat_lit 92, o11) ::
  (nat_lit 94, o94) ::
  (nat_lit 95, o11) ::
  (nat_lit 97, o97) ::
  (nat_lit 98, o98) ::
  (nat_lit 99, o99) ::
  (nat_lit 100, (o100 P)) ::
  (nat_lit 101, o101) ::
  (nat_lit 102, o102) ::
  (nat_lit 103, o103) ::
  (nat_lit 106, o106) ::
  (nat_lit 113, o11) ::
  (nat_lit 115, o115) ::
  (nat_lit 116, o11) ::
  (nat_lit 118, o118) ::
  (nat_lit 119, o119) ::
  (nat_lit 120, o120) ::
  (nat_lit 121, (o121 P)) ::
  (nat_lit 122, o122_1) ::
  (nat_lit 123, o123) ::
  (nat_lit 126, o126) ::
  (nat_lit 133, o11) ::
  (nat_lit 134, (o134 P)) ::
  (nat_lit 135, o135) ::
  (nat_lit 138, o126) ::
  (nat_lit 145, o11) ::
  (nat_lit 146, (o146 P)) ::
  (nat_lit 147, o147) ::
  (nat_lit 150, o126) ::
  (nat_lit 157, o11) ::
  (nat_lit 158, (o158 P)) ::
  (nat_lit 159, o159) ::
  (nat_lit 162, o126) ::
  (nat_lit 169, o11) ::
  (nat_lit 170, (o170 P)) ::
  (nat_lit 171, o171) ::
  (nat_lit 174, o11) ::
  (nat_lit 176, o176) ::
  (nat_lit 177, o11) ::
  (nat_lit 179, o179) ::
  (nat_lit 180, o180) ::
  (nat_lit 181, o11) ::
  (nat_lit 183, o183) ::
  (nat_lit 184, o11) ::
  (nat_lit 186, o186) ::
  (nat_lit 187, o187) ::
  (nat_lit 195, o11) ::
  (nat_lit 197, o197) ::
  (nat_lit 198, o11) ::
  (nat_lit 200, o200) ::
  (nat_lit 201, o201) ::
  (nat_lit 202, o11) ::
  (nat_lit 204, o204) ::
  (nat_lit 205, o11) ::
  (nat_lit 207, o207) ::
  (nat_lit 208, o208) ::
  (nat_lit 209, o11) ::
  (nat_lit 211, o211) ::
  (nat_lit 212, o11) ::
  (nat_lit 214, o214) ::
  (nat_lit 215, o215) ::
  (nat_lit 216, o216) ::
  (nat_lit 217, (o217 P)) ::
  (nat_lit 218, o218) ::
  (nat_lit 219, o219) ::
  (nat_lit 220, o220) ::
  (nat_lit 230, o11) ::
  (nat_lit 232, o232) ::
  (nat_lit 233, o11) ::
  (nat_lit 235, o235) ::
  (nat_lit 236, o236) ::
  (nat_lit 237, o11) ::
  (nat_lit 239, o239) ::
  (nat_lit 240, o11) ::
  (nat_lit 242, o242) ::
  (nat_lit 243, o243) ::
  (nat_lit 244, o11) ::
  (nat_lit 246, o246) ::
  (nat_lit 247, o11) ::
  (nat_lit 249, o249) ::
  (nat_lit 250, o250) ::
  (nat_lit 251, o11) ::
  (nat_lit 253, o253) ::
  (nat_lit 254, o11) ::
  (nat_lit 256, o256) ::
  (nat_lit 257, o257) ::
  (nat_lit 258, o258) ::
  (nat_lit 259, (o259 P)) ::
  (nat_lit 260, o260) ::
  (nat_lit 261, o261) ::
  (nat_lit 262, o262) ::
  (nat_lit 272, o11) ::
  (nat_lit 274, o274) ::
  (nat_lit 275, o11) ::
  (nat_lit 277, o277) ::
  (nat_lit 278, o278) ::
  (nat_lit 279, o11) ::
  (nat_lit 281, o281) ::
  (nat_lit 282, o11) ::
  (nat_lit 284, o284) ::
  (nat_lit 285, o285) ::
  (nat_lit 286, o11) ::
  (nat_lit 288, o288) ::
  (nat_lit 289, o11) ::
  (nat_lit 291, o291) ::
  (nat_lit 292, o292) ::
  (nat_lit 293, o11) ::
  (nat_lit 295, o295) ::
  (nat_lit 296, o11) ::
  (nat_lit 298, o298) ::
  (nat_lit 299, o299) ::
  (nat_lit 300, o300) ::
  (nat_lit 301, (o301 P)) ::
  (nat_lit 302, o302) ::
  (nat_lit 303, o303) ::
  (nat_lit 304, o304) ::
  (nat_lit 307, o11) ::
  (nat_lit 309, o309) ::
  (nat_lit 310, o11) ::
  (nat_lit 312, o312) ::
  (nat_lit 313, o313) ::
  (nat_lit 314, o11) ::
  (nat_lit 316, o316) ::
  (nat_lit 317, o11) ::
  (nat_lit 319, o319) ::
  (nat_lit 320, o320) ::
  (nat_lit 321, o11) ::
  (nat_lit 323, o323) ::
  (nat_lit 324, o11) ::
  (nat_lit 326, o326) ::
  (nat_lit 327, o327) ::
  (nat_lit 335, o11) ::
  (nat_lit 337, o337) ::
  (nat_lit 338, o11) ::
  (nat_lit 340, o340) ::
  (nat_lit 341, o341) ::
  (nat_lit 342, o11) ::
  (nat_lit 344, o344) ::
  (nat_lit 345, o11) ::
  (nat_lit 347, o347) ::
  (nat_lit 348, o348) ::
  (nat_lit 349, o11) ::
  (nat_lit 351, o351) ::
  (nat_lit 352, o11) ::
  (nat_lit 354, o354) ::
  (nat_lit 355, o355) ::
  (nat_lit 356, o11) ::
  (nat_lit 358, o358) ::
  (nat_lit 359, o11) ::
  (nat_lit 361, o361) ::
  (nat_lit 362, o362) ::
  (nat_lit 363, o363) ::
  (nat_lit 364, (o364 P)) ::
  (nat_lit 365, o365) ::
  (nat_lit 366, o366) ::
  (nat_lit 367, o367) ::
  (nat_lit 377, o11) ::
  (nat_lit 379, o379) ::
  (nat_lit 380, o11) ::
  (nat_lit 382, o382) ::
  (nat_lit 383, o383) ::
  (nat_lit 384, o11) ::
  (nat_lit 386, o386) ::
  (nat_lit 387, o11) ::
  (nat_lit 389, o389) ::
  (nat_lit 390, o390) ::
  (nat_lit 391, o11) ::
  (nat_lit 393, o393) ::
  (nat_lit 394, o11) ::
  (nat_lit 396, o396) ::
  (nat_lit 397, o397) ::
  (nat_lit 398, o11) ::
  (nat_lit 400, o400) ::
  (nat_lit 401, o11) ::
  (nat_lit 403, o403) ::
  (nat_lit 404, o404) ::
  (nat_lit 405, o405) ::
  (nat_lit 406, (o406 P)) ::
  (nat_lit 407, o407) ::
  (nat_lit 408, o408) ::
  (nat_lit 409, o409) ::
  (nat_lit 419, o11) ::
  (nat_lit 421, o421) ::
  (nat_lit 422, o11) ::
  (nat_lit 424, o424) ::
  (nat_lit 425, o425) ::
  (nat_lit 426, o11) ::
  (nat_lit 428, o428) ::
  (nat_lit 429, o11) ::
  (nat_lit 431, o431) ::
  (nat_lit 432, o432) ::
  (nat_lit 433, o11) ::
  (nat_lit 435, o435) ::
  (nat_lit 436, o11) ::
  (nat_lit 438, o438) ::
  (nat_lit 439, o439) ::
  (nat_lit 440, o440) ::
  (nat_lit 441, (o441 P)) ::
  (nat_lit 442, o442) ::
  (nat_lit 443, o443) ::
  (nat_lit 444, o444) ::
  (nat_lit 447, o11) ::
  (nat_lit 449, o449) ::
  (nat_lit 450, o11) ::
  (nat_lit 452, o452) ::
  (nat_lit 453, o453) ::
  (nat_lit 461, o11) ::
  (nat_lit 463, o463) ::
  (nat_lit 464, o11) ::
  (nat_lit 466, o466) ::
  (nat_lit 467, o467) ::
  (nat_lit 468, o11) ::
  (nat_lit 470, o470) ::
  (nat_lit 471, o11) ::
  (nat_lit 473, o473) ::
  (nat_lit 474, o474) ::
  (nat_lit 475, o11) ::
  (nat_lit 477, o477) ::
  (nat_lit 478, o11) ::
  (nat_lit 480, o480) ::
  (nat_lit 481, o481) ::
  (nat_lit 482, o11) ::
  (nat_lit 484, o484) ::
  (nat_lit 485, o11) ::
  (nat_lit 487, o487) ::
  (nat_lit 488, o488) ::
  (nat_lit 489, o489) ::
  (nat_lit 490, (o490 P)) ::
  (nat_lit 491, o491) ::
  (nat_lit 492, o492) ::
  (nat_lit 493, o493) ::
  (nat_lit 503, o11) ::
  (nat_lit 505, o505) ::
  (nat_lit 506, o11) ::
  (nat_lit 508, o508) ::
  (nat_lit 509, o509) ::
  (nat_lit 510, o11) ::
  (nat_lit 512, o512) ::
  (nat_lit 513, o11) ::
  (nat_lit 515, o515) ::
  (nat_lit 516, o516) ::
  (nat_lit 517, o11) ::
  (nat_lit 519, o519) ::
  (nat_lit 520, o11) ::
  (nat_lit 522, o522) ::
  (nat_lit 523, o523) ::
  (nat_lit 524, o11) ::
  (nat_lit 526, o526) ::
  (nat_lit 527, o11) ::
  (nat_lit 529, o529) ::
  (nat_lit 530, o530) ::
  (nat_lit 531, o11) ::
  (nat_lit 533, o533) ::
  (nat_lit 534, o11) ::
  (nat_lit 536, o536) ::
  (nat_lit 537, o537) ::
  (nat_lit 538, o538) ::
  (nat_lit 539, (o539 P)) ::
  (nat_lit 540, o540) ::
  (nat_lit 541, o541) ::
  (nat_lit 542, o542) ::
  (nat_lit 552, o11) ::
  (nat_lit 554, o554) ::
  (nat_lit 555, o11) ::
  (nat_lit 557, o557) ::
  (nat_lit 558, o558) ::
  (nat_lit 559, o11) ::
  (nat_lit 561, o561) ::
  (nat_lit 562, o11) ::
  (nat_lit 564, o564) ::
  (nat_lit 565, o565) ::
  (nat_lit 566, o11) ::
  (nat_lit 568, o568) ::
  (nat_lit 569, o11) ::
  (nat_lit 571, o571) ::
  (nat_lit 572, o572) ::
  (nat_lit 573, o11) ::
  (nat_lit 575, o575) ::
  (nat_lit 576, o11) ::
  (nat_lit 578, o578) ::
  (nat_lit 579, o579) ::
  (nat_lit 580, o580) ::
  (nat_lit 581, (o581 P)) ::
  (nat_lit 582, o582) ::
  (nat_lit 583, o583) ::
  (nat_lit 584, o584) ::
  (nat_lit 587, o11) ::
  (nat_lit 589, o589) ::
  (nat_lit 590, o11) ::
  (nat_lit 592, o592) ::
  (nat_lit 593, o593) ::
  (nat_lit 594, o11) ::
  (nat_lit 596, o596) ::
  (nat_lit 597, o11) ::
  (nat_lit 599, o599) ::
  (nat_lit 600, o600) ::
  (nat_lit 601, o11) ::
  (nat_lit 604, o604) ::
  (nat_lit 605, o605) ::
  (nat_lit 606, o11) ::
  (nat_lit 609, o609) ::
  (nat_lit 610, o610) ::
  (nat_lit 611, o11) ::
  (nat_lit 614, o614) ::
  (nat_lit 615, o615) ::
  (nat_lit 616, o11) ::
  (nat_lit 618, o618) ::
  (nat_lit 619, o11) ::
  (nat_lit 621, o621) ::
  (nat_lit 622, o622) ::
  (nat_lit 623, o11) ::
  (nat_lit 625, o625) ::
  (nat_lit 626, o11) ::
  (nat_lit 628, o628) ::
  (nat_lit 629, o629) ::
  (nat_lit 630, o11) ::
  (nat_lit 632, o632) ::
  (nat_lit 633, o11) ::
  (nat_lit 635, o635) ::
  (nat_lit 636, o636) ::
  (nat_lit 637, o11) ::
  (nat_lit 640, o640) ::
  (nat_lit 641, o641) ::
  (nat_lit 642, o11) ::
  (nat_lit 645, o645) ::
  (nat_lit 646, o646) ::
  (nat_lit 647, o11) ::
  (nat_lit 650, o650) ::
  (nat_lit 651, o651) :: []
noncomputable def kas : List Nat := nat_lit 2 :: nat_lit 3 :: nat_lit 15 :: nat_lit 17 :: nat_lit 18 :: nat_lit 20 :: nat_lit 21 :: nat_lit 29 :: nat_lit 31 :: nat_lit 32 :: nat_lit 34 :: nat_lit 35 :: nat_lit 36 :: nat_lit 38 :: nat_lit 39 :: nat_lit 41 :: nat_lit 42 :: nat_lit 43 :: nat_lit 45 :: nat_lit 46 :: nat_lit 48 :: nat_lit 49 :: nat_lit 50 :: nat_lit 52 :: nat_lit 53 :: nat_lit 55 :: nat_lit 56 :: nat_lit 57 :: nat_lit 58 :: nat_lit 59 :: nat_lit 60 :: nat_lit 61 :: nat_lit 71 :: nat_lit 73 :: nat_lit 74 :: nat_lit 76 :: nat_lit 77 :: nat_lit 78 :: nat_lit 80 :: nat_lit 81 :: nat_lit 83 :: nat_lit 84 :: nat_lit 85 :: nat_lit 87 :: nat_lit 88 :: nat_lit 90 :: nat_lit 91 :: nat_lit 92 :: nat_lit 94 :: nat_lit 95 :: nat_lit 97 :: nat_lit 98 :: nat_lit 99 :: nat_lit 100 :: nat_lit 101 :: nat_lit 102 :: nat_lit 103 :: nat_lit 106 :: nat_lit 113 :: nat_lit 115 :: nat_lit 116 :: nat_lit 118 :: nat_lit 119 :: nat_lit 120 :: nat_lit 121 :: nat_lit 122 :: nat_lit 123 :: nat_lit 126 :: nat_lit 133 :: nat_lit 134 :: nat_lit 135 :: nat_lit 138 :: nat_lit 145 :: nat_lit 146 :: nat_lit 147 :: nat_lit 150 :: nat_lit 157 :: nat_lit 158 :: nat_lit 159 :: nat_lit 162 :: nat_lit 169 :: nat_lit 170 :: nat_lit 171 :: nat_lit 174 :: nat_lit 176 :: nat_lit 177 :: nat_lit 179 :: nat_lit 180 :: nat_lit 181 :: nat_lit 183 :: nat_lit 184 :: nat_lit 186 :: nat_lit 187 :: nat_lit 195 :: nat_lit 197 :: nat_lit 198 :: nat_lit 200 :: nat_lit 201 :: nat_lit 202 :: nat_lit 204 :: nat_lit 205 :: nat_lit 207 :: nat_lit 208 :: nat_lit 209 :: nat_lit 211 :: nat_lit 212 :: nat_lit 214 :: nat_lit 215 :: nat_lit 216 :: nat_lit 217 :: nat_lit 218 :: nat_lit 219 :: nat_lit 220 :: nat_lit 230 :: nat_lit 232 :: nat_lit 233 :: nat_lit 235 :: nat_lit 236 :: nat_lit 237 :: nat_lit 239 :: nat_lit 240 :: nat_lit 242 :: nat_lit 243 :: nat_lit 244 :: nat_lit 246 :: nat_lit 247 :: nat_lit 249 :: nat_lit 250 :: nat_lit 251 :: nat_lit 253 :: nat_lit 254 :: nat_lit 256 :: nat_lit 257 :: nat_lit 258 :: nat_lit 259 :: nat_lit 260 :: nat_lit 261 :: nat_lit 262 :: nat_lit 272 :: nat_lit 274 :: nat_lit 275 :: nat_lit 277 :: nat_lit 278 :: nat_lit 279 :: nat_lit 281 :: nat_lit 282 :: nat_lit 284 :: nat_lit 285 :: nat_lit 286 :: nat_lit 288 :: nat_lit 289 :: nat_lit 291 :: nat_lit 292 :: nat_lit 293 :: nat_lit 295 :: nat_lit 296 :: nat_lit 298 :: nat_lit 299 :: nat_lit 300 :: nat_lit 301 :: nat_lit 302 :: nat_lit 303 :: nat_lit 304 :: nat_lit 307 :: nat_lit 309 :: nat_lit 310 :: nat_lit 312 :: nat_lit 313 :: nat_lit 314 :: nat_lit 316 :: nat_lit 317 :: nat_lit 319 :: nat_lit 320 :: nat_lit 321 :: nat_lit 323 :: nat_lit 324 :: nat_lit 326 :: nat_lit 327 :: nat_lit 335 :: nat_lit 337 :: nat_lit 338 :: nat_lit 340 :: nat_lit 341 :: nat_lit 342 :: nat_lit 344 :: nat_lit 345 :: nat_lit 347 :: nat_lit 348 :: nat_lit 349 :: nat_lit 351 :: nat_lit 352 :: nat_lit 354 :: nat_lit 355 :: nat_lit 356 :: nat_lit 358 :: nat_lit 359 :: nat_lit 361 :: nat_lit 362 :: nat_lit 363 :: nat_lit 364 :: nat_lit 365 :: nat_lit 366 :: nat_lit 367 :: nat_lit 377 :: nat_lit 379 :: nat_lit 380 :: nat_lit 382 :: nat_lit 383 :: nat_lit 384 :: nat_lit 386 :: nat_lit 387 :: nat_lit 389 :: nat_lit 390 :: nat_lit 391 :: nat_lit 393 :: nat_lit 394 :: nat_lit 396 :: nat_lit 397 :: nat_lit 398 :: nat_lit 400 :: nat_lit 401 :: nat_lit 403 :: nat_lit 404 :: nat_lit 405 :: nat_lit 406 :: nat_lit 407 :: nat_lit 408 :: nat_lit 409 :: nat_lit 419 :: nat_lit 421 :: nat_lit 422 :: nat_lit 424 :: nat_lit 425 :: nat_lit 426 :: nat_lit 428 :: nat_lit 429 :: nat_lit 431 :: nat_lit 432 :: nat_lit 433 :: nat_lit 435 :: nat_lit 436 :: nat_lit 438 :: nat_lit 439 :: nat_lit 440 :: nat_lit 441 :: nat_lit 442 :: nat_lit 443 :: nat_lit 444 :: nat_lit 447 :: nat_lit 449 :: nat_lit 450 :: nat_lit 452 :: nat_lit 453 :: nat_lit 461 :: nat_lit 463 :: nat_lit 464 :: nat_lit 466 :: nat_lit 467 :: nat_lit 468 :: nat_lit 470 :: nat_lit 471 :: nat_lit 473 :: nat_lit 474 :: nat_lit 475 :: nat_lit 477 :: nat_lit 478 :: nat_lit 480 :: nat_lit 481 :: nat_lit 482 :: nat_lit 484 :: nat_lit 485 :: nat_lit 487 :: nat_lit 488 :: nat_lit 489 :: nat_lit 490 :: nat_lit 491 :: nat_lit 492 :: nat_lit 493 :: nat_lit 503 :: nat_lit 505 :: nat_lit 506 :: nat_lit 508 :: nat_lit 509 :: nat_lit 510 :: nat_lit 512 :: nat_lit 513 :: nat_lit 515 :: nat_lit 516 :: nat_lit 517 :: nat_lit 519 :: nat_lit 520 :: nat_lit 522 :: nat_lit 523 :: nat_lit 524 :: nat_lit 526 :: nat_lit 527 :: nat_lit 529 :: nat_lit 530 :: nat_lit 531 :: nat_lit 533 :: nat_lit 534 :: nat_lit 536 :: nat_lit 537 :: nat_lit 538 :: nat_lit 539 :: nat_lit 540 :: nat_lit 541 :: nat_lit 542 :: nat_lit 552 :: nat_lit 554 :: nat_lit 555 :: nat_lit 557 :: nat_lit 558 :: nat_lit 559 :: nat_lit 561 :: nat_lit 562 :: nat_lit 564 :: nat_lit 565 :: nat_lit 566 :: nat_lit 568 :: nat_lit 569 :: nat_lit 571 :: nat_lit 572 :: nat_lit 573 :: nat_lit 575 :: nat_lit 576 :: nat_lit 578 :: nat_lit 579 :: nat_lit 580 :: nat_lit 581 :: nat_lit 582 :: nat_lit 583 :: nat_lit 584 :: nat_lit 587 :: nat_lit 589 :: nat_lit 590 :: nat_lit 592 :: nat_lit 593 :: nat_lit 594 :: nat_lit 596 :: nat_lit 597 :: nat_lit 599 :: nat_lit 600 :: nat_lit 601 :: nat_lit 604 :: nat_lit 605 :: nat_lit 606 :: nat_lit 609 :: nat_lit 610 :: nat_lit 611 :: nat_lit 614 :: nat_lit 615 :: nat_lit 616 :: nat_lit 618 :: nat_lit 619 :: nat_lit 621 :: nat_lit 622 :: nat_lit 623 :: nat_lit 625 :: nat_lit 626 :: nat_lit 628 :: nat_lit 629 :: nat_lit 630 :: nat_lit 632 :: nat_lit 633 :: nat_lit 635 :: nat_lit 636 :: nat_lit 637 :: nat_lit 640 :: nat_lit 641 :: nat_lit 642 :: nat_lit 645 :: nat_lit 646 :: nat_lit 647 :: nat_lit 650 :: nat_lit 651 :: []
noncomputable def vq : Program := { pw with main := { pw.main with body := pw.main.body.drop 48 } }
noncomputable def lo : List Str := [Str.ofString "_wall", Str.ofString "__name__", Str.ofString "DirectWriter", Str.ofString "DirectReader", Str.ofString "PressError", Str.ofString "TableError", Str.ofString "CodeError", Str.ofString "CutError", Str.ofString "RangeError", Str.ofString "MOST_BITS", Str.ofString "MOST_SYMBOLS", Str.ofString "code_rows", Str.ofString "check_told", Str.ofString "HuffTable", Str.ofString "BitWriter", Str.ofString "BitReader", Str.ofString "category", Str.ofString "bits_of", Str.ofString "value_of", Str.ofString "MOST_CATEGORY", Str.ofString "DcFirstWriter", Str.ofString "DcFirstReader", Str.ofString "Scan", Str.ofString "ZEROS", Str.ofString "MOST_SIZE", Str.ofString "put_number", Str.ofString "SequentialWriter", Str.ofString "SequentialReader", Str.ofString "CodeSink", Str.ofString "_law_jug", Str.ofString "_law_sip", Str.ofString "_law_lists", Str.ofString "_law_tables", Str.ofString "_law_figures", Str.ofString "_law_coded", Str.ofString "_law_block", Str.ofString "_law_octets", Str.ofString "_law_row", Str.ofString "_law_interval_right"]
end Mine

open PySem PySem.W PyProof.Rows PySem.Calls
set_option Elab.async false
set_option linter.unusedVariables false
namespace Mine
set_option maxRecDepth 100000
set_option maxHeartbeats 0
abbrev hEnv : Env := { scope := pw.main.scope, locals := mainNs, globals := mainNs, cells := [], code := .ref 13, frame := some 14 }
abbrev hCode : Code := .body (behindTheImports pw) hEnv
abbrev hPos : Pos := ⟨0, 0, 0, 0⟩
abbrev hSt (t : Params → BT) (n k : Nat) (w : World) (os : OsState) : SharedT := ⟨t w.params, n, {}, Array.mk [], {}, k, os⟩
abbrev hSeg (w : World) (n : Nat) (s : SharedT) (l : List Stmt) (p : Pos) : Option (Flow × SharedT × Code × Pos) := segRunT treeTable pw w 11 (some (.ref 6)) 1 n s (piecesOf l hEnv hCode p [topFrame hPos])
abbrev hEnd (s : SharedT) (p : Pos) : Option (Flow × SharedT × Code × Pos) := some (.next, s, hCode, p)
abbrev hStm (a n : Nat) : List Stmt := ((behindTheImports pw).drop a).take n
theorem hOpen : ∀ w : World, (fencedOpening treeTable pw w 12000).map (fun s => (s.heap, s.gens, s.drawn, s.toks)) = some (boot_heap w.params, Array.mk [], boot_drawn, boot_toks) := boot_open (by kernel_rfl) (by kernel_rfl) (fun s => by kernel_rfl)
theorem hSize : ∀ w : World, ((boot_heap w.params).isNs mainGlobals && (Array.mk [] : Array GenState).size == 0, (boot_heap w.params).objs.size, (boot_heap w.params).nsMap mainGlobals "__annotations__") = (true, 11, some (.ref 6)) := fun w => by kernel_rfl
theorem hPre : ∀ (w : World) (os : OsState), topGo treeTable pw w 11 (some (.ref 6)) 12 ⟨boot_heap w.params, Array.mk [], boot_drawn, boot_toks, os⟩ (topStub pw) = some ((hSt tB 15 187 w os).abs, ⟨denote treeTable hCode, hCode, hPos, [topFrame hPos]⟩) := fun w os => by kernel_rfl
theorem hBlock : ∀ (w : World) (os : OsState), segRunT treeTable pw w 11 (some (.ref 6)) 1 1 (hSt tB 15 187 w os) (blockOf (behindTheImports pw) hEnv hCode hPos [topFrame hPos]) = hEnd (hSt tB 15 187 w os) hPos := fun w os => by kernel_rfl
theorem hQuick {w : World} {n : Nat} {s : SharedT} {l : List Stmt} {p : Pos} {r}
  (h : PySem.W.Fast.tw10110043849684766642 PySem.W.Fast.tw14364793385576792824 pw w 11 (some (.ref 6)) 1 n s ⟨(PySem.W.Fast.tw12563942051412417395 l hEnv).wrap doneF deadEnd id id, hCode, p, [topFrame hPos]⟩ = r) : hSeg w n s l p = r := by
  show segRunT treeTable pw w 11 (some (.ref 6)) 1 n s ⟨(execs l hEnv).wrap doneF deadEnd id id, hCode, p, [topFrame hPos]⟩ = r
  rw [PySem.W.Fast.te10110043849684766642, PySem.W.Fast.te14364793385576792824, PySem.W.Fast.te12563942051412417395]
  exact h
theorem hSeg5 : ∀ (w : World) (os : OsState), hSeg w 915 (hSt tB 15 187 w os) (hStm 0 6) hPos = hEnd (hSt t5 126 336 w os) ⟨36, 0, 40, 30⟩ := fun w os => hQuick (by kernel_rfl)
theorem hSeg9 : ∀ (w : World) (os : OsState), hSeg w 853 (hSt t5 126 336 w os) (hStm 6 4) ⟨36, 0, 40, 30⟩ = hEnd (hSt t9 174 400 w os) ⟨47, 0, 48, 8⟩ := fun w os => hQuick (by kernel_rfl)
theorem hSeg17 : ∀ (w : World) (os : OsState), hSeg w 721 (hSt t9 174 400 w os) (hStm 10 8) ⟨47, 0, 48, 8⟩ = hEnd (hSt t17 265 542 w os) ⟨101, 0, 123, 31⟩ := fun w os => hQuick (by kernel_rfl)
theorem hSeg25 : ∀ (w : World) (os : OsState), hSeg w 760 (hSt t17 265 542 w os) (hStm 18 8) ⟨101, 0, 123, 31⟩ = hEnd (hSt t25 370 684 w os) ⟨160, 0, 180, 33⟩ := fun w os => hQuick (by kernel_rfl)
theorem hSeg32 : ∀ (w : World) (os : OsState), hSeg w 689 (hSt t25 370 684 w os) (hStm 26 7) ⟨160, 0, 180, 33⟩ = hEnd (hSt t32 454 816 w os) ⟨223, 0, 228, 37⟩ := fun w os => hQuick (by kernel_rfl)
theorem hSeg36 : ∀ (w : World) (os : OsState), hSeg w 1020 (hSt t32 454 816 w os) (hStm 33 4) ⟨223, 0, 228, 37⟩ = hEnd (hSt t36 587 1009 w os) ⟨303, 0, 320, 20⟩ := fun w os => hQuick (by kernel_rfl)
theorem hSeg48 : ∀ (w : World) (os : OsState), hSeg w 333 (hSt t36 587 1009 w os) (hStm 37 12) ⟨303, 0, 320, 20⟩ = hEnd (hSt t48 652 1104 w os) ⟨393, 0, 406, 33⟩ := fun w os => hQuick (by kernel_rfl)
theorem hSplit : behindTheImports pw = hStm 0 6 ++ (hStm 6 4 ++ (hStm 10 8 ++ (hStm 18 8 ++ (hStm 26 7 ++ (hStm 33 4 ++ (hStm 37 12 ++ [])))))) := by kernel_rfl
theorem hFin : ∀ (w : World) (os : OsState), topRun treeTable pw w 11 (some (.ref 6)) 2 (hSt t48 652 1104 w os).abs ⟨doneF .next, hCode, ⟨393, 0, 406, 33⟩, [topFrame hPos]⟩ = some (hSt t48 652 1104 w os).abs := fun w os => by kernel_rfl
theorem hRun (w : World) (os : OsState) : topRun treeTable pw w 11 (some (.ref 6)) (12 + (1 + (915 + (853 + (721 + (760 + (689 + (1020 + (333 + 2))))))))) ⟨boot_heap w.params, Array.mk [], boot_drawn, boot_toks, os⟩ (topStub pw) = some ⟨absHeap (t48 w.params) 652 {}, Array.mk [], {}, 1104, os⟩ :=
  go_top (hPre w os) (piece_block (segRun_of (hBlock w os)) ((congrArg (fun l => topRun treeTable pw w 11 (some (.ref 6)) (915 + (853 + (721 + (760 + (689 + (1020 + (333 + 2))))))) (hSt tB 15 187 w os).abs (restOf l hEnv hCode hPos [topFrame hPos])) hSplit).trans
    (piece_app (segRun_of (hSeg5 w os)) (piece_app (segRun_of (hSeg9 w os)) (piece_app (segRun_of (hSeg17 w os)) (piece_app (segRun_of (hSeg25 w os)) (piece_app (segRun_of (hSeg32 w os)) (piece_app (segRun_of (hSeg36 w os)) (piece_app (segRun_of (hSeg48 w os)) (piece_nil (hFin w os)))))))))))
theorem hSaid : PySem.Challenge.rw_pf0245_01.wellSaid = true := (congrFun PySem.W.Fast.te9446332074065402090 _).trans (by kernel_rfl)
noncomputable abbrev rr : OpenRow := PySem.Challenge.rw_pf0245_01.row
theorem hGet (P : Params) : kas.map (t48 P).get = (kk P).map (fun p => some p.2) := by kernel_rfl
theorem hLow (P : Params) : kas.all (fun a => Nat.blt a 652) = true := by kernel_rfl
theorem hLive (P : Params) : (kk P).all (fun p => !p.2.isFreed) = true := by kernel_rfl
theorem hKeys (P : Params) : kas = (kk P).map (·.1) := by kernel_rfl
theorem alive_of {o : Obj} (h : (!o.isFreed) = true) : alive o = some o := by
  obtain ⟨c, d, dt, sl⟩ := o
  cases dt <;> first | rfl | cases h
theorem hIn (P : Params) : (kk P).In (absHeap (t48 P) 652 {}) := by
  refine Frag.in_of (hKeys P) ?_
  have h1 := hGet P
  have h2 : ∀ a ∈ kas, a < 652 := fun a ha => Nat.le_of_ble_eq_true (List.all_eq_true.mp (hLow P) a ha)
  have h3 : ∀ p ∈ kk P, alive p.2 = some p.2 := fun p hp => alive_of (List.all_eq_true.mp (hLive P) p hp)
  have gen : ∀ (as : List Nat) (K : Frag), as.map (t48 P).get = K.map (fun p => some p.2) → (∀ a ∈ as, a < 652) → (∀ p ∈ K, alive p.2 = some p.2) → as.map (absHeap (t48 P) 652 {}).get? = K.map (fun p => some p.2) := by
    intro as
    induction as with
    | nil => intro K e _ _; cases K with
      | nil => rfl
      | cons p r => cases e
    | cons a as ih => intro K e l v; cases K with
      | nil => cases e
      | cons p r =>
        simp only [List.map_cons, List.cons.injEq] at e ⊢
        exact ⟨(abs_get (l a (.head _)) e.1).trans (v p (.head _)), ih r e.2 (fun b hb => l b (.tail _ hb)) (fun q hq => v q (.tail _ hq))⟩
  exact gen kas (kk P) h1 h2 h3
noncomputable abbrev hk : Hook := ⟨Heap, fun s => s.heap, fun w => absHeap (t48 w.params) 652 {}, InK kk, fun w s e => e ▸ hIn w.params, InK.keeps⟩
noncomputable abbrev fin (w : World) (os : OsState) : Shared := ⟨absHeap (t48 w.params) 652 {}, Array.mk [], {}, 1104, os⟩
noncomputable abbrev xt : Shared → Bool := fun s => xlAt vq [] s && recOk (RowW.records rr.toRowW) s
theorem hL1 (w : World) (os : OsState) : (staticsOk (importedModules pw.main.body) (boot_heap w.params) (fin w os).heap && namesBound pw (fin w os).heap && gensDone (fin w os) && laidKept (boot_heap w.params) (fin w os).heap) = true := by kernel_rfl
theorem hL2 (w : World) (os : OsState) : openSeen vq lo (importedModules pw.main.body) xt true (fin w os) = openGood vq lo := (congrFun (congrFun (congrFun (congrFun (congrFun (congrFun PySem.W.Fast.te4187177175401517315 vq) lo) (importedModules pw.main.body)) xt) true) (fin w os)).trans (by kernel_rfl)
theorem hL3 (w : World) (os : OsState) : hk.obs (fin w os) = hk.val w := rfl
theorem hLeft : LeftO pw vq lo xt hk.obs hk.val 12000 :=
  LeftO.of_pieces (H₀ := boot_heap) (H₁ := fun P => absHeap (t48 P) 652 {}) (k₁ := 1104) hOpen hSize hRun (by kernel_rfl) (fun w => funext fun os => Prod.ext (hL1 w os) (Prod.ext (hL2 w os) (hL3 w os)))
end Mine

open PySem PySem.W PyProof.Rows PySem.Calls PySem.Spec
set_option Elab.async false
set_option linter.unusedVariables false
namespace Mine
abbrev ar (dp : Nat) (fr : Option (List Env)) (gd : Option (List Code)) (un : Nat) : Around := { handled := none, depth := dp, frames := fr, guards := gd, units := un }
structure Stc (w : World) (h : Heap) : Prop where
  X : (kk w.params).In h
  T : ∃ mean mg mb, Top vq (looseW vq lo) mean mg mb h
theorem Stc.keeps {w : World} {h h' : Heap} (C : Stc w h) (k : h.StaysIn h') : Stc w h' :=
  ⟨C.X.keeps k, let ⟨a, b, c, T⟩ := C.T; ⟨a, b, c, T.keeps k⟩⟩
def Keep (S : List Addr) (h h' : Heap) : Prop := ∀ b o, b ∉ S → h.get? b = some o → h'.get? b = some o
theorem Keep.refl {S : List Addr} {h : Heap} : Keep S h h := fun _ _ _ e => e
theorem Keep.trans {S : List Addr} {h h' h'' : Heap} (a : Keep S h h') (b : Keep S h' h'') : Keep S h h'' := fun x o n e => b x o n (a x o n e)
theorem Keep.more {S S' : List Addr} {h h' : Heap} (a : Keep S h h') (s : ∀ x ∈ S, x ∈ S') : Keep S' h h' := fun x o n e => a x o (fun q => n (s x q)) e
theorem Keep.stays {h h' : Heap} (a : Keep [] h h') : h.StaysIn h' := fun b o e => a b o (fun q => nomatch q) e

section
variable {h₀ h h' : Heap} {L : Addr} {m : Str → Option Value} {news news' : List (Addr × Obj)} {S : List Addr}
theorem keptF (F : Fr h₀ L h m) (k : Keep S h h') (hS : ∀ a ∈ S, a ≠ L ∧ h₀.get? a = none) : Fr h₀ L h' m := by
  obtain ⟨oL, es, ep, hL, r⟩ := F.ns
  exact ⟨⟨oL, es, ep, k _ _ (fun q => (hS L q).1 rfl) hL, r⟩, fun b o e => k b o (fun q => by rw [(hS b q).2] at e; cases e) (F.keep b o e), F.above⟩
theorem keptN (N : News h₀ L h news) (k : Keep S h h') (hs : ∀ p ∈ news', (p ∈ news ∧ p.1 ∉ S) ∨ (h'.get? p.1 = some p.2 ∧ p.1 ≠ L ∧ h₀.get? p.1 = none)) : News h₀ L h' news' := fun p hp => by
  rcases hs p hp with ⟨q, n⟩ | q
  · exact ⟨k _ _ n (N p q).1, (N p q).2⟩
  · exact q
theorem upd1 {d : Addr} {o o' : Obj} {g : Obj → List (Addr × Obj)} (F : Fr h₀ L h m) (N : News h₀ L h news) (U : UpdF d o news g) (k : Keep [d] h h') (e : h'.get? d = some o') : Fr h₀ L h' m ∧ News h₀ L h' (g o') := by
  obtain ⟨a, b, rfl, hg, h1, h2⟩ := U.split
  have D := (N (d, o) (by simp)).2
  refine ⟨keptF F k (fun x hx => by rw [List.mem_singleton.mp hx]; exact D), keptN N k fun p hp => ?_⟩
  rw [hg] at hp
  rcases List.mem_append.mp hp with q | q
  · exact .inl ⟨List.mem_append_left _ q, fun z => h1 p q (List.mem_singleton.mp z)⟩
  · rcases List.mem_cons.mp q with rfl | q
    · exact .inr ⟨e, D⟩
    · exact .inl ⟨List.mem_append_right _ (.tail _ q), fun z => h2 p q (List.mem_singleton.mp z)⟩
theorem upd2 {d1 d2 : Addr} {o1 o1' o2 o2' : Obj} {g1 g2 : Obj → List (Addr × Obj)} (F : Fr h₀ L h m) (N : News h₀ L h news) (U1 : UpdF d1 o1 news g1) (U2 : UpdF d2 o2 (g1 o1') g2) (k : Keep [d1, d2] h h')
    (e1 : h'.get? d1 = some o1') (e2 : h'.get? d2 = some o2') : Fr h₀ L h' m ∧ News h₀ L h' (g2 o2') := by
  obtain ⟨a1, b1, rfl, hg1, x1, y1⟩ := U1.split
  obtain ⟨a2, b2, l2, hg2, x2, y2⟩ := U2.split
  have D1 := (N (d1, o1) (by simp)).2
  have off : ∀ p ∈ g1 o1', p.1 ≠ L ∧ h₀.get? p.1 = none := fun p hp => by
    rw [hg1] at hp
    rcases List.mem_append.mp hp with q | q
    · exact (N p (List.mem_append_left _ q)).2
    · rcases List.mem_cons.mp q with rfl | q
      · exact D1
      · exact (N p (List.mem_append_right _ (.tail _ q))).2
  have D2 := off (d2, o2) (by rw [l2]; simp)
  have old : ∀ p ∈ g1 o1', p.1 ≠ d2 → (p ∈ a1 ++ (d1, o1) :: b1 ∧ p.1 ∉ [d1, d2]) ∨ (h'.get? p.1 = some p.2 ∧ p.1 ≠ L ∧ h₀.get? p.1 = none) := fun p hp hn => by
    have hp' := hp
    rw [hg1] at hp
    rcases List.mem_append.mp hp with q | q
    · exact .inl ⟨List.mem_append_left _ q, fun z => by rcases List.mem_cons.mp z with z | z; exact x1 p q z; exact hn (List.mem_singleton.mp z)⟩
    · rcases List.mem_cons.mp q with rfl | q
      · exact .inr ⟨e1, D1⟩
      · exact .inl ⟨List.mem_append_right _ (.tail _ q), fun z => by rcases List.mem_cons.mp z with z | z; exact y1 p q z; exact hn (List.mem_singleton.mp z)⟩
  refine ⟨keptF F k (fun x hx => by rcases List.mem_cons.mp hx with rfl | hx; exact D1; rw [List.mem_singleton.mp hx]; exact D2), keptN N k fun p hp => ?_⟩
  rw [hg2] at hp
  rcases List.mem_append.mp hp with q | q
  · exact old p (by rw [l2]; exact List.mem_append_left _ q) (x2 p q)
  · rcases List.mem_cons.mp q with rfl | q
    · exact .inr ⟨e2, D2⟩
    · exact old p (by rw [l2]; exact List.mem_append_right _ (.tail _ q)) (y2 p q)
theorem addN {a : Addr} {o : Obj} (F : Fr h₀ L h m) (N : News h₀ L h' news') (hn : h.objs.size ≤ a) (e : h'.get? a = some o) : News h₀ L h' ((a, o) :: news') := fun p hp => by
  rcases List.mem_cons.mp hp with rfl | hp
  · refine ⟨e, fun q => ?_, ?_⟩
    · have := F.ns.lt; rw [← q] at this; exact absurd this (Nat.not_lt.mpr hn)
    · cases z : h₀.get? a with
      | none => rfl
      | some o' => exact absurd (Heap.lt_size (F.keep a o' z)) (Nat.not_lt.mpr hn)
  · exact N p hp
theorem ltN0 {a : Addr} (N : News h₀ L h news) (hn : h.objs.size ≤ a) : ∀ p ∈ news, p.1 < a := fun p hp => Nat.lt_of_lt_of_le (Heap.lt_size (N p hp).1) hn
theorem InstAt.of_at {x C dx : Addr} {od : Obj} (e1 : h.get? x = some (instObj C dx)) (e2 : h.get? dx = some od) : InstAt h x (instObj C dx) C (some od) := ⟨e1, rfl, rfl, e2⟩
end

def fine (sc : Scope) (binds : List (Str × Value)) : Bool :=
  !sc.isCoroutine && !sc.isGenerator && (match sc.kind with | .function => true | _ => false) && sc.names.all (fun x => match x.2 with | .cell => false | _ => true) && binds.all fun x => decide (sc.names.lookup x.1 = some .local)
theorem enter {w : World} {dp un : Nat} {fr : Option (List Env)} {gd : Option (List Code)} {h₀ : Heap} {s : Shared} {R : Result → Shared → Prop} {f : Addr} {vs : List Value} (S : List (Addr × Obj)) (binds : List (Str × Value)) {st : Stmt}
    {n name qual : Str} {a : Arguments} {b : List Stmt} {d r tp ts bd ps} {sc : Scope} {pm cdv : Value}
    (C : Stc w h₀) (k : h₀.StaysIn s.heap) (hS : ∀ p ∈ S, s.heap.get? p.1 = some p.2 ∧ h₀.get? p.1 = none)
    (ho : (kk w.params).lookup f = some ⟨.type "function", none, .func (fnOf name qual (fArgs st) (fBody st) (fScope st) .none .none .none pm none cdv .none), #[]⟩)
    (he : st = .FunctionDef n a b d r tp sc ts bd ps)
    (hcd : codeIn (kk w.params) cdv qual = true) (hroom : dp < recursionLimit)
    (hbind : bindArgs (fnOf name qual a b sc .none .none .none pm none cdv .none) ⟨vs, []⟩ = pure binds) (hsc : fine sc binds = true)
    (h : ∀ g L h₁ mean mg mb, Fr g L h₁ (fun y => binds.reverse.lookup y) → News g L h₁ S → (kk w.params).In g → Top vq (looseW vq lo) mean mg mb g → (∀ x o, x ∉ S.map (·.1) → s.heap.get? x = some o → g.get? x = some o) → L = s.heap.objs.size →
      wpAny (model pw w) ((ar dp fr gd un).deeper (envOf qual sc L f cdv)) (execs b (envOf qual sc L f cdv)) (fun fl s' => R (.ok (.ret (match fl with | .ret v => v | _ => .none))) s') (fun _ _ => False) { s with heap := h₁, toks := s.toks + binds.length }) :
    codeAny (model pw w) (ar dp fr gd un) (.call (.ref f) ⟨vs, []⟩) R s := by
  subst he
  obtain ⟨mean, mg, mb, T⟩ := C.T
  simp only [fine, Bool.and_eq_true, Bool.not_eq_true'] at hsc
  obtain ⟨⟨⟨⟨h1, h2⟩, h3⟩, h4⟩, h5⟩ := hsc
  have h3' : sc.kind = .function := by revert h3; cases sc.kind <;> simp
  have nm : ∀ b o, h₀.get? b = some o → b ∉ S.map (·.1) := fun b o e q => by
    obtain ⟨p, hp, rfl⟩ := List.mem_map.mp q
    rw [(hS p hp).2] at e; cases e
  have kg : h₀.StaysIn (hideAll s.heap (S.map (·.1))) := fun b o e => hideAll_get _ (k b o e) (nm b o e)
  refine codeAny_call_def (fd := fnOf name qual a b sc .none .none .none pm none cdv .none) (body := b) (binds := binds) hroom ((C.X.keeps k) _ _ ho) rfl (T.nolimit.keeps k) (codeRec_of (C.X.keeps k) hcd) rfl (BindsTo.of_eq hbind)
    (fun x hx q => by have := List.all_eq_true.mp h4 x hx; rw [q] at this; cases this) (fun x hx => of_decide_eq_true (List.all_eq_true.mp h5 x hx)) (fun h₁ hns hk₁ => ?_) h1 h2 h3'
  refine wpAny_mono (h _ s.heap.objs.size h₁ mean mg mb ⟨hns, fun b o e => hk₁ b o (of_hideAll _ e), Nat.le_of_eq (hideAll_size _ _)⟩ (fun p hp => ⟨hk₁ _ _ (hS p hp).1, Nat.ne_of_lt (Heap.lt_size (hS p hp).1), hideAll_none _ (List.mem_map_of_mem hp)⟩)
    (C.X.keeps kg) (T.keeps kg) (fun x o q e => hideAll_get _ e q) rfl) (fun _ _ q => q) fun _ _ q => q.elim
end Mine

open PySem PySem.W
set_option linter.unusedVariables false
namespace Mine

/-- the lowest n figures of v, the highest first -/
def fig (v : Int) : Nat → List Int
  | 0 => []
  | n + 1 => (v / 2 ^ n % 2) :: fig v n
theorem fig_length (v : Int) : ∀ n, (fig v n).length = n
  | 0 => rfl
  | n + 1 => by simp [fig, fig_length v n]
theorem p2 (n : Nat) : (0 : Int) < 2 ^ n := kbt_pos n
theorem fig_append (v : Int) (s : Nat) : ∀ k, fig v (k + s) = fig (v / 2 ^ s) k ++ fig v s
  | 0 => by simp [fig]
  | k + 1 => by
    have e : k + 1 + s = (k + s) + 1 := by (first | lia | omega)
    rw [e]
    show (v / 2 ^ (k + s) % 2) :: fig v (k + s) = (v / 2 ^ s / 2 ^ k % 2) :: fig (v / 2 ^ s) k ++ fig v s
    rw [fig_append v s k, Int.ediv_ediv_of_nonneg (Int.le_of_lt (p2 s)), ← Int.pow_add, Nat.add_comm s k]
    rfl
theorem fig_low (r v : Int) (n : Nat) : ∀ k, k ≤ n → fig (r * 2 ^ n + v) k = fig v k
  | 0, _ => rfl
  | k + 1, h => by
    show ((r * 2 ^ n + v) / 2 ^ k % 2) :: _ = (v / 2 ^ k % 2) :: _
    rw [fig_low r v n k (by (first | lia | omega))]
    have e : (2 : Int) ^ n = 2 ^ (n - k) * 2 ^ k := by rw [← Int.pow_add]; congr 1; (first | lia | omega)
    have e2 : r * 2 ^ n + v = v + r * 2 ^ (n - k) * 2 ^ k := by rw [e, Int.mul_assoc]; (first | lia | omega)
    have e3 : (2 : Int) ^ (n - k) = 2 * 2 ^ (n - k - 1) := by
      have : n - k = (n - k - 1) + 1 := (Nat.sub_add_cancel (Nat.sub_pos_of_lt h)).symm
      rw [this, Int.pow_succ]; simp only [Nat.add_sub_cancel]; rw [Int.mul_comm]
    rw [e2, Int.add_mul_ediv_right _ _ (Int.ne_of_gt (p2 k)), e3]
    congr 1
    have : r * (2 * 2 ^ (n - k - 1)) = 2 * (r * 2 ^ (n - k - 1)) := by
      rw [← Int.mul_assoc, Int.mul_comm r 2, Int.mul_assoc]
    rw [this]; exact Int.add_mul_emod_self_left _ _ _
theorem fig_mod (v : Int) (n : Nat) : fig (v % 2 ^ n) n = fig v n := by
  have h : v = v / 2 ^ n * 2 ^ n + v % 2 ^ n := by
    have := Int.emod_add_mul_ediv v (2 ^ n); rw [Int.mul_comm] at this; (first | lia | omega)
  conv => rhs; rw [h]
  exact (fig_low (v / 2 ^ n) (v % 2 ^ n) n n (Nat.le_refl _)).symm
theorem fig_join {r v : Int} {n k : Nat} (h0 : 0 ≤ v) (h1 : v < 2 ^ n) : fig (r * 2 ^ n + v) (k + n) = fig r k ++ fig v n := by
  rw [fig_append, fig_low r v n n (Nat.le_refl _)]
  congr 2
  rw [Int.add_comm, Int.add_mul_ediv_right _ _ (Int.ne_of_gt (p2 n)), Int.ediv_eq_zero_of_lt h0 h1]
  (first | lia | omega)
theorem fig_01 (v : Int) : ∀ n, ∀ c ∈ fig v n, c = 0 ∨ c = 1
  | 0, c, h => by cases h
  | n + 1, c, h => by
    rcases List.mem_cons.mp h with rfl | h
    · (first | lia | omega)
    · exact fig_01 v n c h
/-- the number that figures tell -/
def val (l : List Int) : Int := l.foldl (fun a c => a * 2 + c) 0
theorem val_go (l : List Int) : ∀ a, l.foldl (fun a c => a * 2 + c) a = a * 2 ^ l.length + val l := by
  induction l with
  | nil => intro a; simp [val]
  | cons c r ih =>
    intro a
    show r.foldl _ (a * 2 + c) = _
    rw [ih, show val (c :: r) = r.foldl (fun a c => a * 2 + c) (0 * 2 + c) from rfl, ih]
    simp only [List.length_cons, Int.pow_succ]
    have : (2 : Int) ^ r.length * 2 = 2 * 2 ^ r.length := Int.mul_comm _ _
    rw [this, ← Int.mul_assoc, Int.zero_mul, Int.zero_add, Int.add_mul]
    (first | lia | omega)
theorem val_cons (c : Int) (l : List Int) : val (c :: l) = c * 2 ^ l.length + val l := by
  rw [show val (c :: l) = l.foldl (fun a c => a * 2 + c) (0 * 2 + c) from rfl, val_go]; simp
theorem val_snoc (l : List Int) (c : Int) : val (l ++ [c]) = val l * 2 + c := by
  unfold val; rw [List.foldl_append]; rfl
theorem val_fig (v : Int) : ∀ n, val (fig v n) = v % 2 ^ n
  | 0 => by show (0 : Int) = _; rw [Int.pow_zero, Int.emod_one]
  | n + 1 => by
    rw [fig, val_cons, fig_length, val_fig v n]
    have hp := p2 n
    have h1 := Int.emod_add_mul_ediv v (2 ^ n)
    have h2 := Int.emod_add_mul_ediv (v / 2 ^ n) 2
    have h3 : (2 : Int) ^ (n + 1) = 2 ^ n * 2 := Int.pow_succ _ _
    have a0 := Int.emod_nonneg v (Int.ne_of_gt hp)
    have a1 := Int.emod_lt_of_pos v hp
    rw [h3]
    have hq : v % (2 ^ n * 2) = v / 2 ^ n % 2 * 2 ^ n + v % 2 ^ n := by
      have b0 : 0 ≤ v / 2 ^ n % 2 := by (first | lia | omega)
      have b1 : v / 2 ^ n % 2 ≤ 1 := by (first | lia | omega)
      refine ((kbt_unique (b := 2 ^ n * 2) (a := v) (q := v / 2 ^ n / 2) (r := v / 2 ^ n % 2 * 2 ^ n + v % 2 ^ n) (by (first | lia | omega)) ?_ ?_ ?_).2)
      · have : 2 ^ n * 2 * (v / 2 ^ n / 2) = 2 ^ n * (2 * (v / 2 ^ n / 2)) := Int.mul_assoc _ _ _
        rw [this]
        have h4 : 2 * (v / 2 ^ n / 2) = v / 2 ^ n - v / 2 ^ n % 2 := by (first | lia | omega)
        rw [h4, Int.mul_sub, Int.mul_comm (2 ^ n) (v / 2 ^ n % 2)]
        (first | lia | omega)
      · have := Int.mul_nonneg b0 (Int.le_of_lt hp); (first | lia | omega)
      · have : v / 2 ^ n % 2 * 2 ^ n ≤ 1 * 2 ^ n := Int.mul_le_mul_of_nonneg_right b1 (Int.le_of_lt hp)
        (first | lia | omega)
    rw [hq]
theorem val_fig' {v : Int} {n : Nat} (h0 : 0 ≤ v) (h1 : v < 2 ^ n) : val (fig v n) = v := by rw [val_fig, Int.emod_eq_of_lt h0 h1]
theorem fig_inj {v u : Int} {n : Nat} (h0 : 0 ≤ v) (h1 : v < 2 ^ n) (g0 : 0 ≤ u) (g1 : u < 2 ^ n) (e : fig v n = fig u n) : v = u := by
  rw [← val_fig' h0 h1, ← val_fig' g0 g1, e]
theorem fig_val (l : List Int) (h : ∀ c ∈ l, c = 0 ∨ c = 1) : fig (val l) l.length = l ∧ 0 ≤ val l ∧ val l < 2 ^ l.length := by
  induction l with
  | nil => exact ⟨rfl, by decide, by decide⟩
  | cons c r ih =>
    obtain ⟨a, b, d⟩ := ih fun x hx => h x (.tail _ hx)
    have hc := h c (.head _)
    have hp := p2 r.length
    rw [val_cons]
    refine ⟨?_, ?_, ?_⟩
    · show ((c * 2 ^ r.length + val r) / 2 ^ r.length % 2) :: fig (c * 2 ^ r.length + val r) r.length = c :: r
      rw [fig_low c (val r) r.length r.length (Nat.le_refl _), a, Int.add_comm, Int.add_mul_ediv_right _ _ (Int.ne_of_gt hp), Int.ediv_eq_zero_of_lt b d]
      congr 1
      rcases hc with rfl | rfl <;> rfl
    · rcases hc with rfl | rfl <;> (first | lia | omega)
    · simp only [List.length_cons, Int.pow_succ]; rcases hc with rfl | rfl <;> (first | lia | omega)

/-- the figures of octets -/
def octs (F : List Int) : List Int := F.flatMap fun v => fig v 8
def Oct (F : List Int) : Prop := ∀ v ∈ F, 0 ≤ v ∧ v < 256
theorem octs_length (F : List Int) : (octs F).length = 8 * F.length := by
  induction F with
  | nil => rfl
  | cons v r ih => simp only [octs, List.flatMap_cons, List.length_append, fig_length, List.length_cons] at ih ⊢; (first | lia | omega)
theorem octs_snoc (F : List Int) (v : Int) : octs (F ++ [v]) = octs F ++ fig v 8 := by simp [octs]
theorem octs_cons (v : Int) (F : List Int) : octs (v :: F) = fig v 8 ++ octs F := rfl
theorem octs_inj : ∀ {F G : List Int}, Oct F → Oct G → octs F = octs G → F = G
  | [], [], _, _, _ => rfl
  | [], v :: r, _, _, e => by have := congrArg List.length e; simp only [octs_length, List.length_cons, List.length_nil] at this; (first | lia | omega)
  | v :: r, [], _, _, e => by have := congrArg List.length e; simp only [octs_length, List.length_cons, List.length_nil] at this; (first | lia | omega)
  | v :: r, u :: t, hF, hG, e => by
    rw [octs_cons, octs_cons] at e
    obtain ⟨e1, e2⟩ := List.append_inj e (by rw [fig_length, fig_length])
    have a := hF v (.head _); have b := hG u (.head _)
    rw [fig_inj (n := 8) a.1 (by have := a.2; (first | lia | omega)) b.1 (by have := b.2; (first | lia | omega)) e1, octs_inj (fun x hx => hF x (.tail _ hx)) (fun x hx => hG x (.tail _ hx)) e2]
theorem fig_get (v : Int) : ∀ n j, j < n → (fig v n)[j]? = some (v / 2 ^ (n - 1 - j) % 2)
  | n + 1, 0, _ => by simp [fig]
  | n + 1, j + 1, h => by
    show (fig v n)[j]? = _
    rw [fig_get v n j (by (first | lia | omega))]
    have e : n + 1 - 1 - (j + 1) = n - 1 - j := by rw [Nat.add_sub_cancel, Nat.sub_sub, Nat.add_comm 1 j]
    rw [e]
theorem octs_get : ∀ (F : List Int) (i : Nat), i < 8 * F.length → (octs F)[i]? = some (F.getD (i / 8) 0 / 2 ^ (7 - i % 8) % 2)
  | [], i, h => by simp only [List.length_nil] at h; (first | lia | omega)
  | v :: r, i, h => by
    rw [octs_cons]
    by_cases hi : i < 8
    · rw [List.getElem?_append_left (by rw [fig_length]; exact hi), fig_get v 8 i hi]
      have e1 : i / 8 = 0 := Nat.div_eq_of_lt hi
      have e2 : 8 - 1 - i = 7 - i % 8 := by show 7 - i = 7 - i % 8; rw [Nat.mod_eq_of_lt hi]
      rw [e1, e2]; rfl
    · rw [List.getElem?_append_right (by rw [fig_length]; (first | lia | omega)), fig_length, octs_get r (i - 8) (by simp only [List.length_cons] at h; (first | lia | omega))]
      have e1 : i / 8 = (i - 8) / 8 + 1 := Nat.div_eq_sub_div (by decide) (Nat.le_of_not_lt hi)
      have e2 : (i - 8) % 8 = i % 8 := (Nat.mod_eq_sub_mod (Nat.le_of_not_lt hi)).symm
      rw [e1, e2]; rfl
theorem octs_head {F : List Int} {p : Nat} {c : Int} {rest : List Int} (h : (octs F).drop p = c :: rest) : p < 8 * F.length ∧ F.getD (p / 8) 0 / 2 ^ (7 - p % 8) % 2 = c ∧ (octs F).drop (p + 1) = rest := by
  have hl : p < (octs F).length := by
    have := congrArg List.length h; simp only [List.length_drop, List.length_cons] at this; (first | lia | omega)
  rw [octs_length] at hl
  refine ⟨hl, ?_, ?_⟩
  · have h1 : (octs F)[p]? = some c := by rw [← List.head?_drop, h]; rfl
    rw [octs_get F p hl] at h1
    exact Option.some.inj h1
  · rw [← List.drop_drop, h]; rfl
end Mine

open PySem PySem.W PyProof.Rows PySem.Calls PySem.Spec
set_option Elab.async false
set_option linter.unusedVariables false
namespace Mine
set_option maxRecDepth 100000
theorem ex2 {A0 : Type} {A1 : Type} {P : A0 → A1 → Prop} {G : Prop} (h : ∃ a0 a1, P a0 a1) (k : ∀ a0 a1, P a0 a1 → G) : G := h.elim fun a0 h => h.elim fun a1 h => k a0 a1 h
theorem ex3 {A0 : Type} {A1 : Type} {A2 : Type} {P : A0 → A1 → A2 → Prop} {G : Prop} (h : ∃ a0 a1 a2, P a0 a1 a2) (k : ∀ a0 a1 a2, P a0 a1 a2 → G) : G := h.elim fun a0 h => h.elim fun a1 h => h.elim fun a2 h => k a0 a1 a2 h
theorem mk3 {A0 : Type} {A1 : Type} {A2 : Type} {P : A0 → A1 → A2 → Prop} {a0 : A0} {a1 : A1} {a2 : A2} (p : P a0 a1 a2) : ∃ a0 a1 a2, P a0 a1 a2 := ⟨a0, a1, a2, p⟩
theorem ex4 {A0 : Type} {A1 : Type} {A2 : Type} {A3 : Type} {P : A0 → A1 → A2 → A3 → Prop} {G : Prop} (h : ∃ a0 a1 a2 a3, P a0 a1 a2 a3) (k : ∀ a0 a1 a2 a3, P a0 a1 a2 a3 → G) : G := h.elim fun a0 h => h.elim fun a1 h => h.elim fun a2 h => h.elim fun a3 h => k a0 a1 a2 a3 h
theorem mk4 {A0 : Type} {A1 : Type} {A2 : Type} {A3 : Type} {P : A0 → A1 → A2 → A3 → Prop} {a0 : A0} {a1 : A1} {a2 : A2} {a3 : A3} (p : P a0 a1 a2 a3) : ∃ a0 a1 a2 a3, P a0 a1 a2 a3 := ⟨a0, a1, a2, a3, p⟩
theorem ex5 {A0 : Type} {A1 : Type} {A2 : Type} {A3 : Type} {A4 : Type} {P : A0 → A1 → A2 → A3 → A4 → Prop} {G : Prop} (h : ∃ a0 a1 a2 a3 a4, P a0 a1 a2 a3 a4) (k : ∀ a0 a1 a2 a3 a4, P a0 a1 a2 a3 a4 → G) : G := h.elim fun a0 h => h.elim fun a1 h => h.elim fun a2 h => h.elim fun a3 h => h.elim fun a4 h => k a0 a1 a2 a3 a4 h
theorem mk5 {A0 : Type} {A1 : Type} {A2 : Type} {A3 : Type} {A4 : Type} {P : A0 → A1 → A2 → A3 → A4 → Prop} {a0 : A0} {a1 : A1} {a2 : A2} {a3 : A3} {a4 : A4} (p : P a0 a1 a2 a3 a4) : ∃ a0 a1 a2 a3 a4, P a0 a1 a2 a3 a4 := ⟨a0, a1, a2, a3, a4, p⟩
theorem ex6 {A0 : Type} {A1 : Type} {A2 : Type} {A3 : Type} {A4 : Type} {A5 : Type} {P : A0 → A1 → A2 → A3 → A4 → A5 → Prop} {G : Prop} (h : ∃ a0 a1 a2 a3 a4 a5, P a0 a1 a2 a3 a4 a5) (k : ∀ a0 a1 a2 a3 a4 a5, P a0 a1 a2 a3 a4 a5 → G) : G := h.elim fun a0 h => h.elim fun a1 h => h.elim fun a2 h => h.elim fun a3 h => h.elim fun a4 h => h.elim fun a5 h => k a0 a1 a2 a3 a4 a5 h
theorem mk6 {A0 : Type} {A1 : Type} {A2 : Type} {A3 : Type} {A4 : Type} {A5 : Type} {P : A0 → A1 → A2 → A3 → A4 → A5 → Prop} {a0 : A0} {a1 : A1} {a2 : A2} {a3 : A3} {a4 : A4} {a5 : A5} (p : P a0 a1 a2 a3 a4 a5) : ∃ a0 a1 a2 a3 a4 a5, P a0 a1 a2 a3 a4 a5 := ⟨a0, a1, a2, a3, a4, a5, p⟩
theorem ex7 {A0 : Type} {A1 : Type} {A2 : Type} {A3 : Type} {A4 : Type} {A5 : Type} {A6 : Type} {P : A0 → A1 → A2 → A3 → A4 → A5 → A6 → Prop} {G : Prop} (h : ∃ a0 a1 a2 a3 a4 a5 a6, P a0 a1 a2 a3 a4 a5 a6) (k : ∀ a0 a1 a2 a3 a4 a5 a6, P a0 a1 a2 a3 a4 a5 a6 → G) : G := h.elim fun a0 h => h.elim fun a1 h => h.elim fun a2 h => h.elim fun a3 h => h.elim fun a4 h => h.elim fun a5 h => h.elim fun a6 h => k a0 a1 a2 a3 a4 a5 a6 h
theorem mk7 {A0 : Type} {A1 : Type} {A2 : Type} {A3 : Type} {A4 : Type} {A5 : Type} {A6 : Type} {P : A0 → A1 → A2 → A3 → A4 → A5 → A6 → Prop} {a0 : A0} {a1 : A1} {a2 : A2} {a3 : A3} {a4 : A4} {a5 : A5} {a6 : A6} (p : P a0 a1 a2 a3 a4 a5 a6) : ∃ a0 a1 a2 a3 a4 a5 a6, P a0 a1 a2 a3 a4 a5 a6 := ⟨a0, a1, a2, a3, a4, a5, a6, p⟩
theorem ex8 {A0 : Type} {A1 : Type} {A2 : Type} {A3 : Type} {A4 : Type} {A5 : Type} {A6 : Type} {A7 : Type} {P : A0 → A1 → A2 → A3 → A4 → A5 → A6 → A7 → Prop} {G : Prop} (h : ∃ a0 a1 a2 a3 a4 a5 a6 a7, P a0 a1 a2 a3 a4 a5 a6 a7) (k : ∀ a0 a1 a2 a3 a4 a5 a6 a7, P a0 a1 a2 a3 a4 a5 a6 a7 → G) : G := h.elim fun a0 h => h.elim fun a1 h => h.elim fun a2 h => h.elim fun a3 h => h.elim fun a4 h => h.elim fun a5 h => h.elim fun a6 h => h.elim fun a7 h => k a0 a1 a2 a3 a4 a5 a6 a7 h
theorem mk8 {A0 : Type} {A1 : Type} {A2 : Type} {A3 : Type} {A4 : Type} {A5 : Type} {A6 : Type} {A7 : Type} {P : A0 → A1 → A2 → A3 → A4 → A5 → A6 → A7 → Prop} {a0 : A0} {a1 : A1} {a2 : A2} {a3 : A3} {a4 : A4} {a5 : A5} {a6 : A6} {a7 : A7} (p : P a0 a1 a2 a3 a4 a5 a6 a7) : ∃ a0 a1 a2 a3 a4 a5 a6 a7, P a0 a1 a2 a3 a4 a5 a6 a7 := ⟨a0, a1, a2, a3, a4, a5, a6, a7, p⟩
theorem ex9 {A0 : Type} {A1 : Type} {A2 : Type} {A3 : Type} {A4 : Type} {A5 : Type} {A6 : Type} {A7 : Type} {A8 : Type} {P : A0 → A1 → A2 → A3 → A4 → A5 → A6 → A7 → A8 → Prop} {G : Prop} (h : ∃ a0 a1 a2 a3 a4 a5 a6 a7 a8, P a0 a1 a2 a3 a4 a5 a6 a7 a8) (k : ∀ a0 a1 a2 a3 a4 a5 a6 a7 a8, P a0 a1 a2 a3 a4 a5 a6 a7 a8 → G) : G := h.elim fun a0 h => h.elim fun a1 h => h.elim fun a2 h => h.elim fun a3 h => h.elim fun a4 h => h.elim fun a5 h => h.elim fun a6 h => h.elim fun a7 h => h.elim fun a8 h => k a0 a1 a2 a3 a4 a5 a6 a7 a8 h
theorem mk9 {A0 : Type} {A1 : Type} {A2 : Type} {A3 : Type} {A4 : Type} {A5 : Type} {A6 : Type} {A7 : Type} {A8 : Type} {P : A0 → A1 → A2 → A3 → A4 → A5 → A6 → A7 → A8 → Prop} {a0 : A0} {a1 : A1} {a2 : A2} {a3 : A3} {a4 : A4} {a5 : A5} {a6 : A6} {a7 : A7} {a8 : A8} (p : P a0 a1 a2 a3 a4 a5 a6 a7 a8) : ∃ a0 a1 a2 a3 a4 a5 a6 a7 a8, P a0 a1 a2 a3 a4 a5 a6 a7 a8 := ⟨a0, a1, a2, a3, a4, a5, a6, a7, a8, p⟩
theorem ex10 {A0 : Type} {A1 : Type} {A2 : Type} {A3 : Type} {A4 : Type} {A5 : Type} {A6 : Type} {A7 : Type} {A8 : Type} {A9 : Type} {P : A0 → A1 → A2 → A3 → A4 → A5 → A6 → A7 → A8 → A9 → Prop} {G : Prop} (h : ∃ a0 a1 a2 a3 a4 a5 a6 a7 a8 a9, P a0 a1 a2 a3 a4 a5 a6 a7 a8 a9) (k : ∀ a0 a1 a2 a3 a4 a5 a6 a7 a8 a9, P a0 a1 a2 a3 a4 a5 a6 a7 a8 a9 → G) : G := h.elim fun a0 h => h.elim fun a1 h => h.elim fun a2 h => h.elim fun a3 h => h.elim fun a4 h => h.elim fun a5 h => h.elim fun a6 h => h.elim fun a7 h => h.elim fun a8 h => h.elim fun a9 h => k a0 a1 a2 a3 a4 a5 a6 a7 a8 a9 h
theorem mk10 {A0 : Type} {A1 : Type} {A2 : Type} {A3 : Type} {A4 : Type} {A5 : Type} {A6 : Type} {A7 : Type} {A8 : Type} {A9 : Type} {P : A0 → A1 → A2 → A3 → A4 → A5 → A6 → A7 → A8 → A9 → Prop} {a0 : A0} {a1 : A1} {a2 : A2} {a3 : A3} {a4 : A4} {a5 : A5} {a6 : A6} {a7 : A7} {a8 : A8} {a9 : A9} (p : P a0 a1 a2 a3 a4 a5 a6 a7 a8 a9) : ∃ a0 a1 a2 a3 a4 a5 a6 a7 a8 a9, P a0 a1 a2 a3 a4 a5 a6 a7 a8 a9 := ⟨a0, a1, a2, a3, a4, a5, a6, a7, a8, a9, p⟩
theorem conj3 {p0 p1 p2 G : Prop} (h : p0 ∧ p1 ∧ p2) (k : p0 → p1 → p2 → G) : G := k h.1 h.2.1 h.2.2
theorem conj4 {p0 p1 p2 p3 G : Prop} (h : p0 ∧ p1 ∧ p2 ∧ p3) (k : p0 → p1 → p2 → p3 → G) : G := k h.1 h.2.1 h.2.2.1 h.2.2.2
theorem conj5 {p0 p1 p2 p3 p4 G : Prop} (h : p0 ∧ p1 ∧ p2 ∧ p3 ∧ p4) (k : p0 → p1 → p2 → p3 → p4 → G) : G := k h.1 h.2.1 h.2.2.1 h.2.2.2.1 h.2.2.2.2
theorem conj6 {p0 p1 p2 p3 p4 p5 G : Prop} (h : p0 ∧ p1 ∧ p2 ∧ p3 ∧ p4 ∧ p5) (k : p0 → p1 → p2 → p3 → p4 → p5 → G) : G := k h.1 h.2.1 h.2.2.1 h.2.2.2.1 h.2.2.2.2.1 h.2.2.2.2.2
theorem conj7 {p0 p1 p2 p3 p4 p5 p6 G : Prop} (h : p0 ∧ p1 ∧ p2 ∧ p3 ∧ p4 ∧ p5 ∧ p6) (k : p0 → p1 → p2 → p3 → p4 → p5 → p6 → G) : G := k h.1 h.2.1 h.2.2.1 h.2.2.2.1 h.2.2.2.2.1 h.2.2.2.2.2.1 h.2.2.2.2.2.2
theorem conj8 {p0 p1 p2 p3 p4 p5 p6 p7 G : Prop} (h : p0 ∧ p1 ∧ p2 ∧ p3 ∧ p4 ∧ p5 ∧ p6 ∧ p7) (k : p0 → p1 → p2 → p3 → p4 → p5 → p6 → p7 → G) : G := k h.1 h.2.1 h.2.2.1 h.2.2.2.1 h.2.2.2.2.1 h.2.2.2.2.2.1 h.2.2.2.2.2.2.1 h.2.2.2.2.2.2.2
theorem conj9 {p0 p1 p2 p3 p4 p5 p6 p7 p8 G : Prop} (h : p0 ∧ p1 ∧ p2 ∧ p3 ∧ p4 ∧ p5 ∧ p6 ∧ p7 ∧ p8) (k : p0 → p1 → p2 → p3 → p4 → p5 → p6 → p7 → p8 → G) : G := k h.1 h.2.1 h.2.2.1 h.2.2.2.1 h.2.2.2.2.1 h.2.2.2.2.2.1 h.2.2.2.2.2.2.1 h.2.2.2.2.2.2.2.1 h.2.2.2.2.2.2.2.2
theorem conj10 {p0 p1 p2 p3 p4 p5 p6 p7 p8 p9 G : Prop} (h : p0 ∧ p1 ∧ p2 ∧ p3 ∧ p4 ∧ p5 ∧ p6 ∧ p7 ∧ p8 ∧ p9) (k : p0 → p1 → p2 → p3 → p4 → p5 → p6 → p7 → p8 → p9 → G) : G := k h.1 h.2.1 h.2.2.1 h.2.2.2.1 h.2.2.2.2.1 h.2.2.2.2.2.1 h.2.2.2.2.2.2.1 h.2.2.2.2.2.2.2.1 h.2.2.2.2.2.2.2.2.1 h.2.2.2.2.2.2.2.2.2
inductive E2c2 {A0 : Type} {A1 : Type} (P0 P1 : A0 → A1 → Prop) : Prop
  | mk (a0 : A0) (a1 : A1) (h0 : P0 a0 a1) (h1 : P1 a0 a1) : E2c2 P0 P1
inductive E3c2 {A0 : Type} {A1 : Type} {A2 : Type} (P0 P1 : A0 → A1 → A2 → Prop) : Prop
  | mk (a0 : A0) (a1 : A1) (a2 : A2) (h0 : P0 a0 a1 a2) (h1 : P1 a0 a1 a2) : E3c2 P0 P1
inductive E5c2 {A0 : Type} {A1 : Type} {A2 : Type} {A3 : Type} {A4 : Type} (P0 P1 : A0 → A1 → A2 → A3 → A4 → Prop) : Prop
  | mk (a0 : A0) (a1 : A1) (a2 : A2) (a3 : A3) (a4 : A4) (h0 : P0 a0 a1 a2 a3 a4) (h1 : P1 a0 a1 a2 a3 a4) : E5c2 P0 P1
inductive E6c6 {A0 : Type} {A1 : Type} {A2 : Type} {A3 : Type} {A4 : Type} {A5 : Type} (P0 P1 P2 P3 P4 P5 : A0 → A1 → A2 → A3 → A4 → A5 → Prop) : Prop
  | mk (a0 : A0) (a1 : A1) (a2 : A2) (a3 : A3) (a4 : A4) (a5 : A5) (h0 : P0 a0 a1 a2 a3 a4 a5) (h1 : P1 a0 a1 a2 a3 a4 a5) (h2 : P2 a0 a1 a2 a3 a4 a5) (h3 : P3 a0 a1 a2 a3 a4 a5) (h4 : P4 a0 a1 a2 a3 a4 a5) (h5 : P5 a0 a1 a2 a3 a4 a5) : E6c6 P0 P1 P2 P3 P4 P5
inductive E8c2 {A0 : Type} {A1 : Type} {A2 : Type} {A3 : Type} {A4 : Type} {A5 : Type} {A6 : Type} {A7 : Type} (P0 P1 : A0 → A1 → A2 → A3 → A4 → A5 → A6 → A7 → Prop) : Prop
  | mk (a0 : A0) (a1 : A1) (a2 : A2) (a3 : A3) (a4 : A4) (a5 : A5) (a6 : A6) (a7 : A7) (h0 : P0 a0 a1 a2 a3 a4 a5 a6 a7) (h1 : P1 a0 a1 a2 a3 a4 a5 a6 a7) : E8c2 P0 P1
theorem exE {A : Type} {P : A → Prop} {G : Prop} (h : ∃ a, P a) (k : ∀ a, P a → G) : G := h.elim k
inductive E2c4 {A0 : Type} {A1 : Type} (P0 P1 P2 P3 : A0 → A1 → Prop) : Prop
  | mk (a0 : A0) (a1 : A1) (h0 : P0 a0 a1) (h1 : P1 a0 a1) (h2 : P2 a0 a1) (h3 : P3 a0 a1) : E2c4 P0 P1 P2 P3
theorem dec_turn {n i : Nat} (h : i < n) : n + 1 - (i + 1) < n + 1 - i := Nat.sub_lt_sub_left (Nat.lt_succ_of_lt h) (Nat.lt_succ_self i)
/-- a place where the walk is to stop -/
def Stop (p : Prop) : Prop := p
theorem stop {p : Prop} (h : Stop p) : p := h

/-- what a call knows of the heap it began with -/
structure Ent (s : Shared) (g : Heap) (S : List (Addr × Obj)) : Prop where
  own : ∀ p ∈ S, s.heap.get? p.1 = some p.2
  rest : ∀ x o, x ∉ S.map (·.1) → s.heap.get? x = some o → g.get? x = some o
theorem Ent.keep {s : Shared} {g h' : Heap} {L : Addr} {S news : List (Addr × Obj)} {m : Str → Option Value} {ch : List Addr} (e : Ent s g S) (F : Fr g L h' m) (N : News g L h' news) (hs : ∀ p ∈ S, p.1 ∈ ch ∨ p ∈ news) : Keep ch s.heap h' := fun b o hb ho => by
  by_cases hm : b ∈ S.map (·.1)
  · obtain ⟨p, hp, rfl⟩ := List.mem_map.mp hm
    rcases hs p hp with h | h
    · exact absurd h hb
    · have := e.own p hp
      rw [ho] at this
      rw [Option.some.inj this]
      exact (N p h).1
  · exact F.keep b o (e.rest b o hm ho)

section
variable {w : World} {dp un : Nat} {fr : Option (List Env)} {gd : Option (List Code)} {h₀ : Heap} {s : Shared} {R : Result → Shared → Prop}
theorem begin {f : Addr} {vs : List Value} (S : List (Addr × Obj)) (binds : List (Str × Value)) {st : Stmt}
    {n name qual : Str} {a : Arguments} {b : List Stmt} {d r tp ts bd ps} {sc : Scope} {pm cdv : Value}
    (C : Stc w h₀) (k : h₀.StaysIn s.heap) (hS : ∀ p ∈ S, s.heap.get? p.1 = some p.2 ∧ h₀.get? p.1 = none)
    (ho : (kk w.params).lookup f = some ⟨.type "function", none, .func (fnOf name qual (fArgs st) (fBody st) (fScope st) .none .none .none pm none cdv .none), #[]⟩)
    (he : st = .FunctionDef n a b d r tp sc ts bd ps)
    (hcd : codeIn (kk w.params) cdv qual = true) (hroom : dp < recursionLimit)
    (hbind : bindArgs (fnOf name qual a b sc .none .none .none pm none cdv .none) ⟨vs, []⟩ = pure binds) (hsc : fine sc binds = true)
    (h : ∀ g L h₁ mean mg mb tk, Fr g L h₁ (fun y => binds.reverse.lookup y) → News g L h₁ S → (kk w.params).In g → Top vq (looseW vq lo) mean mg mb g → Ent s g S → Stc w g → h₀.StaysIn g →
      wpAny (model pw w) ((ar dp fr gd un).deeper (envOf qual sc L f cdv)) (execs b (envOf qual sc L f cdv)) (fun fl s' => R (.ok (.ret (match fl with | .ret v => v | _ => .none))) s') (fun _ _ => False) { s with heap := h₁, toks := tk }) :
    codeAny (model pw w) (ar dp fr gd un) (.call (.ref f) ⟨vs, []⟩) R s :=
  enter S binds C k hS ho he hcd hroom hbind hsc fun g L h₁ mean mg mb F N X T hG hL =>
    h g L h₁ mean mg mb _ F N X T ⟨fun p hp => (hS p hp).1, hG⟩ ⟨X, mean, mg, mb, T⟩ fun b o e => hG b o (fun q => by
      obtain ⟨p, hp, rfl⟩ := List.mem_map.mp q
      rw [(hS p hp).2] at e; cases e) (k b o e)
end

/-- the end of a loop's turn -/
def TEnd (g : Heap) (L : Addr) (I : Addr) (own : List (Addr × Obj)) (Jn : (Str → Option Value) → List (Addr × Obj) → Prop) (s₁ : Shared) (Q : Flow → Shared → Prop) (f : Flow) (s₂ : Shared) : Prop :=
  match f with
  | .ret v => Q (.ret v) s₂
  | .brk => Q .next s₂
  | _ => ∃ h' tk m' news', s₂ = { s₁ with heap := h', toks := tk } ∧ Fr g L h' m' ∧ News g L h' (own ++ news') ∧ (∀ p ∈ news', p.1 ≠ I) ∧ Jn m' news'
theorem TEnd.ret {g : Heap} {L I : Addr} {own : List (Addr × Obj)} {Jn : (Str → Option Value) → List (Addr × Obj) → Prop} {s₁ s₂ : Shared} {Q : Flow → Shared → Prop} {v : Value} (h : Q (.ret v) s₂) : TEnd g L I own Jn s₁ Q (.ret v) s₂ := h
theorem TEnd.next {g : Heap} {L I : Addr} {own : List (Addr × Obj)} {Jn : (Str → Option Value) → List (Addr × Obj) → Prop} {s₁ : Shared} {Q : Flow → Shared → Prop} {h' : Heap} {tk : Nat} {m' : Str → Option Value} {all : List (Addr × Obj)}
    (F : Fr g L h' m') (N : News g L h' all) (news' : List (Addr × Obj)) (hs : ∀ p ∈ own ++ news', p ∈ all) (hI : ∀ p ∈ news', p.1 ≠ I) (hJ : Jn m' news') : TEnd g L I own Jn s₁ Q .next { s₁ with heap := h', toks := tk } :=
  ⟨h', tk, m', news', rfl, F, fun p hp => N p (hs p hp), hI, hJ⟩

section
variable {prog : Program} {w : World} {A : Around} {E : Value → Shared → Prop} {s : Shared} {env : Env} {g : Heap} {x : Str} {target : Expr} {body : List Stmt} {Q : Flow → Shared → Prop}
theorem for_range {r : Addr} {a₀ b₀ : Int} {t₀ u₀ v₀ : Tok} {n : Nat} {m₀ : Str → Option Value} {news : List (Addr × Obj)} (J : Nat → (Str → Option Value) → List (Addr × Obj) → Prop)
    (hh : A.handled = none) (hr : IsRange s.heap r a₀ b₀ 1 t₀ u₀ v₀) (hsmall : Builtin.Range.small a₀ b₀ 1 = true) (hn : Builtin.Range.rangeSize a₀ b₀ 1 = (n : Int)) (F : Fr g env.locals s.heap m₀) (N : News g env.locals s.heap news) (h0 : J 0 m₀ news)
    (turn : ∀ I i t m₁ news₁ h tk o, (∀ p ∈ news, p.1 < I) → i < n → J i m₁ news₁ → (∀ p ∈ news₁, p.1 ≠ I) → Fr g env.locals h (fun y => if y = x then some (.int (a₀ + (i : Nat)) t) else m₁ y) → News g env.locals h ((I, o) :: news₁) →
      wpAny (model prog w) A (execs body env) (TEnd g env.locals I [(I, o)] (J (i + 1)) { s with heap := h, toks := tk } Q) E { s with heap := h, toks := tk })
    (done : ∀ m' news' h tk, J n m' news' → Fr g env.locals h m' → News g env.locals h news' → Q .next { s with heap := h, toks := tk }) :
    wpAny (model prog w) A (pyIter (.ref r)) (fun it s₂ => LoopAtV prog w A g env x body Q E it s₂) E s := by
  refine wpAny_pyIter_range hr hsmall ?_
  have W : Walks prog w A s.heap.objs.size [s.heap.objs.size] [s.heap.objs.size] n (fun i v => i < n ∧ ∃ t, v = .int (a₀ + i * 1) t)
      (fun i h => IsRangeIter h s.heap.objs.size (a₀ + (i : Nat) * 1) ((n : Int) - (i : Nat)) 1) := (Walks.range hh _ a₀ 1 n).bound
  refine mk9 (a0 := s.heap.objs.size) (a1 := [s.heap.objs.size]) (a2 := [s.heap.objs.size]) (a3 := n) (a6 := m₀) (a7 := news) (a8 := J) ⟨rfl, W, ?_, ?_, ?_, ?_, F.push _, (fun p hp => ⟨Heap.get?_push_of_some _ (N p hp).1, (N p hp).2⟩), h0, ?_, ?_⟩
  · intro hm; exact absurd F.ns.lt ((List.mem_singleton.mp hm) ▸ Nat.lt_irrefl _)
  · intro b hb; rw [List.mem_singleton.mp hb]; exact next_is_new F
  · intro p hp hI; exact absurd (Heap.lt_size (N p hp).1) ((List.mem_singleton.mp hI) ▸ Nat.lt_irrefl _)
  · show IsRangeIter _ _ _ _ _; rw [hn]; simpa using Heap.get?_push_size _ rfl
  · rintro i v m₁ news₁ s₁ own ⟨hh', tk', rfl⟩ hin ⟨_, t, rfl⟩ hJ hoff hown _ hall hst F₁ N₁
    have hob : ∃ o, hh'.get? s.heap.objs.size = some o := ⟨_, hst⟩
    obtain ⟨o, ho⟩ := hob
    have hio : (s.heap.objs.size, o) ∈ own := hall _ (List.mem_singleton.mpr rfl) (next_is_new F) _ ho
    have hone := own_one hown (fun b hb => .inl (List.mem_singleton.mp hb)) ho N₁
    have e1 : a₀ + (i : Int) * 1 = a₀ + (i : Nat) := by (first | lia | omega)
    rw [e1] at F₁
    refine wpAny_mono (turn s.heap.objs.size i t m₁ news₁ hh' tk' o (fun p hp => Heap.lt_size (N p hp).1) hin hJ (fun p hp e => hoff p hp (by rw [e]; exact List.mem_singleton.mpr rfl)) F₁ (news_one hio N₁)) (fun f s₂ p => ?_) fun _ _ e => e
    have fin : (∃ h' tk m' news', s₂ = { ({ s with heap := hh', toks := tk' } : Shared) with heap := h', toks := tk } ∧ Fr g env.locals h' m' ∧ News g env.locals h' ([(s.heap.objs.size, o)] ++ news') ∧ (∀ p ∈ news', p.1 ≠ s.heap.objs.size) ∧ J (i + 1) m' news') → LoopStepU g env.locals [s.heap.objs.size] own (J (i + 1)) { s with heap := hh', toks := tk' } .next s₂ := by
      rintro ⟨h', tk, m', news', e, F', N', hoff', hm⟩
      refine ⟨rfl, h', tk, m', news', e, F', fun p hp => ?_, fun p hp hq => hoff' p hp (List.mem_singleton.mp hq), hm⟩
      rcases List.mem_append.mp hp with hp | hp
      · exact N' p (List.mem_append_left _ (by rw [hone p hp]; exact List.mem_singleton.mpr rfl))
      · exact N' p (List.mem_append_right _ hp)
    cases f with
    | ret v => exact .ret p
    | brk => exact .brk p
    | next => exact .next (fin p)
    | cont => exact .cont (fin p)
  · rintro h' tk m' news' F' N' _ hJ
    exact done m' news' h' tk hJ F' N'

theorem own_two {I l : Addr} {h : Heap} {o ol : Obj} {L : Addr} {own news : List (Addr × Obj)} (hown : ∀ p ∈ own, p.1 ∈ [I, l]) (ho : h.get? I = some o) (hl : h.get? l = some ol) (N : News g L h (own ++ news)) : ∀ p ∈ own, p ∈ [(I, o), (l, ol)] := by
  rintro ⟨a, b⟩ hp
  have h3 := (N _ (List.mem_append_left _ hp)).1
  have := hown _ hp
  simp only [List.mem_cons, List.not_mem_nil, or_false] at this
  rcases this with e | e
  · subst e; rw [ho] at h3; cases h3; exact List.Mem.head _
  · subst e; rw [hl] at h3; cases h3; exact List.Mem.tail _ (List.Mem.head _)
def ListObj (ol : Obj) (vs : List Value) : Prop := ol.cls = .type "list" ∧ ∃ n, ol.data = .seq vs.toArray n
theorem ListObj.of {vs : List Value} {n : Nat} : ListObj (listOf vs.toArray n) vs := ⟨rfl, n, rfl⟩
theorem ListObj.at {ol : Obj} {vs : List Value} {h : Heap} {l : Addr} (x : ListObj ol vs) (e : h.get? l = some ol) : h.IsList l vs.toArray := ⟨ol, e, x.1, x.2⟩
theorem walksP (hh : A.handled = none) (I l : Addr) (hne : l ≠ I) {ol : Obj} {vs : List Value} (X : ListObj ol vs) :
    Walks prog w A I [I, l] [I] vs.length (fun i v => vs[i]? = some v) (fun i h => h.IsListIter I l i ∧ h.get? l = some ol) where
  sub := fun b hb => by simp at hb; simp [hb]
  frame := fun _ _ _ st hk => ⟨st.1.at fun o e => hk I (by simp) o e, hk l (by simp) _ st.2⟩
  item := fun i s Q E hi st hQ => by
    refine wpAny_pyNext_list_item st.1 (X.at st.2) (x := vs[i]) (by simp [hi]) fun h' hit' hs' => ?_
    exact hQ _ h' s.toks (by simp [hi]) ⟨hit', (hs'.2 l hne).trans st.2⟩ fun b o hb e => hs'.extBut b o (fun h => hb (by simp [h])) e
  done := fun s Q E st hQ => wpAny_pyNext_list_end hh st.1 (X.at st.2) (by simp) fun h' he' => hQ h' s.toks fun b o hb e => he' b o (fun h => hb (by simp [h])) e
  self := fun _ _ _ _ st hQ => wpAny_pyIter_listiter st.1 hQ
theorem turn_fin {I : Addr} {o : Obj} {own lst news₁ : List (Addr × Obj)} {J : (Str → Option Value) → List (Addr × Obj) → Prop} {hh' : Heap} {tk' : Nat} {f : Flow} {s₂ : Shared} (hone : ∀ p ∈ own, p ∈ (I, o) :: lst)
    (p : TEnd g env.locals I ((I, o) :: lst) J { s with heap := hh', toks := tk' } Q f s₂) : LoopStepV g env.locals [I] own J { s with heap := hh', toks := tk' } (fun v s' => Q (.ret v) s') (fun s' => Q .next s') f s₂ := by
  have fin : (∃ h' tk m' news', s₂ = { ({ s with heap := hh', toks := tk' } : Shared) with heap := h', toks := tk } ∧ Fr g env.locals h' m' ∧ News g env.locals h' (((I, o) :: lst) ++ news') ∧ (∀ p ∈ news', p.1 ≠ I) ∧ J m' news') → LoopStepU g env.locals [I] own J { s with heap := hh', toks := tk' } .next s₂ := by
    rintro ⟨h', tk, m', news', e, F', N', hoff', hm⟩
    refine ⟨rfl, h', tk, m', news', e, F', fun p hp => ?_, fun p hp hq => hoff' p hp (List.mem_singleton.mp hq), hm⟩
    rcases List.mem_append.mp hp with hp | hp
    · exact N' p (List.mem_append_left _ (hone p hp))
    · exact N' p (List.mem_append_right _ hp)
  cases f with
  | ret v => exact .ret p
  | brk => exact .brk p
  | next => exact .next (fin p)
  | cont => exact .cont (fin p)
/-- a loop over a list of the ledger -/
theorem for_listN {l : Addr} {vs : List Value} {nl : Nat} {m₀ : Str → Option Value} {news : List (Addr × Obj)} (J : Nat → (Str → Option Value) → List (Addr × Obj) → Prop)
    (hh : A.handled = none) (F : Fr g env.locals s.heap m₀) (N : News g env.locals s.heap ((l, listOf vs.toArray nl) :: news)) (h0 : J 0 m₀ news)
    (turn : ∀ I i v m₁ news₁ h tk o, (∀ p ∈ (l, listOf vs.toArray nl) :: news, p.1 < I) → vs[i]? = some v → J i m₁ news₁ → (∀ p ∈ news₁, p.1 ≠ I) → Fr g env.locals h m₁ → News g env.locals h ((I, o) :: (l, listOf vs.toArray nl) :: news₁) →
      wpAny (model prog w) A (assign target env v) (fun _ s₃ => wpAny (model prog w) A (execs body env) (TEnd g env.locals I [(I, o), (l, listOf vs.toArray nl)] (J (i + 1)) { s with heap := h, toks := tk } Q) E s₃) E { s with heap := h, toks := tk })
    (done : ∀ m' news' h tk, J vs.length m' news' → Fr g env.locals h m' → News g env.locals h news' → Q .next { s with heap := h, toks := tk }) :
    wpAny (model prog w) A (pyIter (.ref l)) (fun it s₂ => TurnsAt prog w A g env target body Q E it s₂) E s := by
  have hlN := N _ (.head _)
  have hne : l ≠ s.heap.objs.size := Nat.ne_of_lt (Heap.lt_size hlN.1)
  have N' : News g env.locals s.heap news := fun p hp => N p (.tail _ hp)
  refine wpAny_pyIter_list (ListObj.of.at hlN.1) ?_
  have W := KTurns.ofWalks (target := target) (walksP (prog := prog) (w := w) hh s.heap.objs.size l hne (ListObj.of (vs := vs) (n := nl))) (fun i v s' Q' E' st hQ' => letGo_listiter st.1 hQ')
  refine mk10 (a0 := s.heap.objs.size) (a3 := vs.length) (a7 := m₀) (a8 := news) (a9 := J) ⟨rfl, W, ?_, ?_, ?_, ⟨⟨_, Heap.get?_push_size _ rfl, rfl, rfl⟩, Heap.get?_push_of_some _ hlN.1⟩, F.push _, (fun p hp => ⟨Heap.get?_push_of_some _ (N' p hp).1, (N' p hp).2⟩), h0, ?_, ?_⟩
  · intro hm
    rcases List.mem_cons.mp hm with e | hm
    · exact absurd F.ns.lt (e ▸ Nat.lt_irrefl _)
    · exact hlN.2.1 (List.mem_singleton.mp hm).symm
  · intro b hb; rw [List.mem_singleton.mp hb]; exact next_is_new F
  · intro p hp hI; exact absurd (Heap.lt_size (N' p hp).1) ((List.mem_singleton.mp hI) ▸ Nat.lt_irrefl _)
  · rintro i v m₁ news₁ hh' tk' own hin hP hJ hoff hown hget hall hst F₁ N₁
    obtain ⟨o, ho, _⟩ := hst.1
    have hio : (s.heap.objs.size, o) ∈ own := hall _ (.head _) (next_is_new F) _ ho
    have hil : (l, listOf vs.toArray nl) ∈ own := hall _ (.tail _ (.head _)) hlN.2.2 _ hst.2
    refine wpAny_mono (turn s.heap.objs.size i v m₁ news₁ hh' tk' o (fun p hp => Heap.lt_size (N p hp).1) hP hJ (fun p hp e => hoff p hp (by rw [e]; exact List.mem_singleton.mpr rfl)) F₁ (fun p hp => ?_)) (fun _ s₃ h₃ => wpAny_mono h₃ (fun f s₂ p => turn_fin (news₁ := news₁) (own_two hown ho hst.2 N₁) p) fun _ _ e => e) fun _ _ e => e
    rcases List.mem_cons.mp hp with rfl | hp
    · exact N₁ _ (List.mem_append_left _ hio)
    · rcases List.mem_cons.mp hp with rfl | hp
      · exact N₁ _ (List.mem_append_left _ hil)
      · exact N₁ _ (List.mem_append_right _ hp)
  · rintro h' tk m' news' F' N'' _ hJ
    exact done m' news' h' tk hJ F' N''
/-- a loop over a list of the base -/
theorem for_listB {l : Addr} {ol : Obj} {vs : List Value} {m₀ : Str → Option Value} {news : List (Addr × Obj)} (J : Nat → (Str → Option Value) → List (Addr × Obj) → Prop)
    (hh : A.handled = none) (hl : g.get? l = some ol) (X : ListObj ol vs) (F : Fr g env.locals s.heap m₀) (N : News g env.locals s.heap news) (h0 : J 0 m₀ news)
    (turn : ∀ I i v m₁ news₁ h tk o, (∀ p ∈ news, p.1 < I) → vs[i]? = some v → J i m₁ news₁ → (∀ p ∈ news₁, p.1 ≠ I) → Fr g env.locals h m₁ → News g env.locals h ((I, o) :: news₁) →
      wpAny (model prog w) A (assign target env v) (fun _ s₃ => wpAny (model prog w) A (execs body env) (TEnd g env.locals I [(I, o)] (J (i + 1)) { s with heap := h, toks := tk } Q) E s₃) E { s with heap := h, toks := tk })
    (done : ∀ m' news' h tk, J vs.length m' news' → Fr g env.locals h m' → News g env.locals h news' → Q .next { s with heap := h, toks := tk }) :
    wpAny (model prog w) A (pyIter (.ref l)) (fun it s₂ => TurnsAt prog w A g env target body Q E it s₂) E s := by
  have hls := F.keep _ _ hl
  have hlt : l < g.objs.size := Heap.lt_size hl
  have hne : l ≠ s.heap.objs.size := Nat.ne_of_lt (Heap.lt_size hls)
  refine wpAny_pyIter_list (X.at hls) ?_
  have W := KTurns.ofWalks (target := target) (walksP (prog := prog) (w := w) hh s.heap.objs.size l hne X) (fun i v s' Q' E' st hQ' => letGo_listiter st.1 hQ')
  refine mk10 (a0 := s.heap.objs.size) (a3 := vs.length) (a7 := m₀) (a8 := news) (a9 := J) ⟨rfl, W, ?_, ?_, ?_, ⟨⟨_, Heap.get?_push_size _ rfl, rfl, rfl⟩, Heap.get?_push_of_some _ hls⟩, F.push _, (fun p hp => ⟨Heap.get?_push_of_some _ (N p hp).1, (N p hp).2⟩), h0, ?_, ?_⟩
  · intro hm
    rcases List.mem_cons.mp hm with e | hm
    · exact absurd F.ns.lt (e ▸ Nat.lt_irrefl _)
    · exact absurd (Nat.lt_of_lt_of_le hlt F.above) ((List.mem_singleton.mp hm) ▸ Nat.lt_irrefl _)
  · intro b hb; rw [List.mem_singleton.mp hb]; exact next_is_new F
  · intro p hp hI; exact absurd (Heap.lt_size (N p hp).1) ((List.mem_singleton.mp hI) ▸ Nat.lt_irrefl _)
  · rintro i v m₁ news₁ hh' tk' own hin hP hJ hoff hown hget hall hst F₁ N₁
    obtain ⟨o, ho, _⟩ := hst.1
    have hio : (s.heap.objs.size, o) ∈ own := hall _ (.head _) (next_is_new F) _ ho
    have hone := own_one hown (fun b hb => by
      rcases List.mem_cons.mp hb with e | hb
      · exact .inl e
      · exact .inr ⟨_, (List.mem_singleton.mp hb) ▸ hl⟩) ho N₁
    exact wpAny_mono (turn s.heap.objs.size i v m₁ news₁ hh' tk' o (fun p hp => Heap.lt_size (N p hp).1) hP hJ (fun p hp e => hoff p hp (by rw [e]; exact List.mem_singleton.mpr rfl)) F₁ (news_one hio N₁)) (fun _ s₃ h₃ => wpAny_mono h₃ (fun f s₂ p => turn_fin (news₁ := news₁) (fun p hp => List.mem_singleton.mpr (hone p hp)) p) fun _ _ e => e) fun _ _ e => e
  · rintro h' tk m' news' F' N'' _ hJ
    exact done m' news' h' tk hJ F' N''
theorem whl_split {p : Prop} [Decidable p] {T F : Prop} (t : p → T) (f : ¬ p → F) : WhlIf (decide p) T F := by
  by_cases h : p
  · exact .yes (decide_eq_true h) (t h)
  · exact .no (decide_eq_false h) (f h)
/-- a while by a measure -/
theorem while_inv {test : Expr} {orelse : List Stmt} {pos : Pos} {m₀ : Str → Option Value} {news : List (Addr × Obj)} (J : Nat → (Str → Option Value) → List (Addr × Obj) → Prop) (hE : PassesOwn (model prog w) A env E)
    (turn : ∀ n m₁ news₁ h tk, J n m₁ news₁ → Fr g env.locals h m₁ → News g env.locals h news₁ →
      wpAny (model prog w) A (isTrue test env (eval test env)) (fun b s₂ => WhlIf b (wpAny (model prog w) A (execs body env) (TEnd g env.locals env.locals [] (fun m' news' => ∃ k, k < n ∧ J k m' news') { s with heap := h, toks := tk } Q) E s₂) (wpAny (model prog w) A (execs orelse env) Q E s₂)) E { s with heap := h, toks := tk })
    {n : Nat} (h0 : J n m₀ news) (F : Fr g env.locals s.heap m₀) (N : News g env.locals s.heap news) : wpAny (model prog w) A (exec (.While test body orelse pos) env) Q E s := by
  refine whl_start 0 ?_
  have main : ∀ n, ∀ m₁ news₁ h tk, J n m₁ news₁ → Fr g env.locals h m₁ → News g env.locals h news₁ → WhlRest prog w A E env test body orelse Q 0 { s with heap := h, toks := tk } := by
    intro n
    induction n using Nat.strongRecOn with
    | ind n ih =>
      intro m₁ news₁ h tk hJ F₁ N₁
      refine whl_turn (k := 0) hE (wpAny_mono (turn n m₁ news₁ h tk hJ F₁ N₁) (fun b s₂ hb => ?_) fun _ _ e => e)
      unfold WhlIf at hb ⊢
      cases b with
      | false => simpa using hb
      | true =>
        simp only [if_true] at hb ⊢
        refine wpAny_mono hb (fun f s₃ hf => ?_) fun _ _ e => e
        cases f with
        | ret v => exact hf
        | brk => exact hf
        | next =>
          obtain ⟨h', tk', m', news', rfl, F', N', _, k, hk, hJ'⟩ := hf
          exact ih k hk m' news' h' tk' hJ' F' N'
        | cont =>
          obtain ⟨h', tk', m', news', rfl, F', N', _, k, hk, hJ'⟩ := hf
          exact ih k hk m' news' h' tk' hJ' F' N'
  exact main n m₀ news s.heap s.toks h0 F N
end
end Mine

open PySem PySem.W PyProof.Rows PySem.Calls PySem.Spec
set_option Elab.async false
set_option linter.unusedVariables false
namespace Mine
set_option maxRecDepth 100000
/-- a code that may hold a bytearray -/
def dirty : Code → Bool
  | .builtin id _ => Builtin.Bytes.decodersThatHold.contains id || ["bytearray.__contains__", "bytearray.__mod__", "bytearray.__rmod__", "_struct.pack_into.held", "bytearray.find.held"].contains id
  | _ => false
def Cl (Γ : PySem.Ctx) : Prop := dirty Γ.code = false ∧ ∀ x ∈ Γ.below, dirty x.1 = false
/-- as wpAny, in contexts without such codes, and with no exception -/
def wpC {α : Type} (M : Model) (A : Around) (t : Sem α) (Q : α → Shared → Prop) (s : Shared) : Prop :=
  ∀ Γ p, Γ.In A → Cl Γ → Sem.wp M Γ t (fun a _ s' => Q a s') (fun _ _ _ => False) p s
def codeC (M : Model) (A : Around) (c : Code) (R : Result → Shared → Prop) (s : Shared) : Prop :=
  ∀ Γ p, Γ.code = c → Γ.Below A → (∀ x ∈ Γ.below, dirty x.1 = false) → wpCode M Γ R p s
abbrev NoX : Value → Shared → Prop := fun _ _ => False
section
variable {α β : Type} {M : Model} {A : Around} {s : Shared}
theorem wpC.of {t : Sem α} {Q : α → Shared → Prop} (h : wpAny M A t Q NoX s) : wpC M A t Q s := fun Γ p i _ => h Γ p i
theorem codeC.of {c : Code} {R : Result → Shared → Prop} (h : codeAny M A c R s) : codeC M A c R s := fun Γ p e b _ => h Γ p e b
theorem wpC_mono {t : Sem α} {Q Q' : α → Shared → Prop} (h : wpC M A t Q s) (hQ : ∀ a s, Q a s → Q' a s) : wpC M A t Q' s :=
  fun Γ p i c => Sem.wp_mono M Γ t (fun a _ s => hQ a s) (fun _ _ _ e => e) p s (h Γ p i c)
theorem codeC_mono {c : Code} {R R' : Result → Shared → Prop} (h : codeC M A c R s) (hR : ∀ r s, R r s → R' r s) : codeC M A c R' s :=
  fun Γ p e b x => wpCode_mono hR (h Γ p e b x)
theorem wpC_pure {a : α} {Q : α → Shared → Prop} (h : Q a s) : wpC M A (pure a) Q s := fun _ _ _ _ => h
theorem wpC_bind {m : Sem α} {f : α → Sem β} {Q : β → Shared → Prop} (h : wpC M A m (fun a s' => wpC M A (f a) Q s') s) : wpC M A (m >>= f) Q s := fun Γ p i c => by
  rw [Sem.wp_bind']
  exact Sem.wp_mono M Γ m (fun a p' s' h' => h' Γ p' i c) (fun _ _ _ e => e) p s (h Γ p i c)
theorem wpC_lbind {m : Sem α} {f : α → Sem β} {Q : β → Shared → Prop} (h : wpAny M A m (fun a s' => wpC M A (f a) Q s') NoX s) : wpC M A (m >>= f) Q s := wpC_bind (.of h)
theorem wpC_look {h₀ : Heap} {m : Sem α} {f : α → Sem β} {r : α} {Q : β → Shared → Prop} (L : Looks M h₀ m r) (k : ∀ b o, h₀.get? b = some o → s.heap.get? b = some o) (h : wpC M A (f r) Q s) : wpC M A (m >>= f) Q s := wpC_lbind (L A _ NoX s k h)
theorem wpC_holding {vs : List Value} {m : Sem α} {Q : α → Shared → Prop} (h : wpC M A m Q s) : wpC M A (holding vs m) Q s :=
  fun Γ p i c => by rw [Sem.wp_holding]; exact h Γ p i c
theorem wpC_keep {vs : List Value} {m : Sem α} {Q : α → Shared → Prop} (h : wpC M A m Q s) : wpC M A (m.keep vs) Q s :=
  fun Γ p i c => by rw [Sem.wp_keep]; exact h Γ p i c
theorem wpC_onRaise {m : Sem α} {k : Value → Sem Unit} {Q : α → Shared → Prop} (h : wpC M A m Q s) : wpC M A (m.onRaise k) Q s := fun Γ p i c => by
  rw [Sem.wp_onRaise]
  exact Sem.wp_mono M Γ m (fun _ _ _ h' => h') (fun _ _ _ e => e.elim) p s (h Γ p i c)
theorem wpC_operate {vs : List Value} {m : Sem Value} {Q : Value → Shared → Prop} (h : wpC M A m Q s) : wpC M A (operate vs m) Q s :=
  fun Γ p i c => by rw [Sem.wp_operate]; exact h Γ p i c
theorem enter_clean {Γ : PySem.Ctx} {c : Code} {h : Option Value} {p : Pos} (k : Cl Γ) : ∀ x ∈ (Γ.enter c h p).below, dirty x.1 = false := fun x hx => by
  rcases List.mem_cons.mp hx with rfl | hx
  · exact k.1
  · exact k.2 x hx
theorem wpC_run {c : Code} {Q : Flow → Shared → Prop} (hc : codeC M A c (fun r s' => match r with | .ok f => Q f s' | .error _ => False) s) : wpC M A (run c none) Q s := fun Γ p i k => by
  rw [Sem.wp_run]
  exact wpCode_mono (fun r s' h => by cases r <;> exact h) (hc _ p rfl (i.enter c none p (by intro x; cases x)) (enter_clean k))
def Back (Q : Value → Shared → Prop) (r : Result) (s' : Shared) : Prop := match r with
  | .ok (.ret v) => Q v s'
  | _ => False
theorem wpC_call {f : Value} {pos : List Value} {kw : List (Str × Value)} {Q : Value → Shared → Prop} (hc : codeC M A (.call f ⟨pos, kw⟩) (Back Q) s) : wpC M A (call f pos kw) Q s := fun Γ p i k => by
  rw [Sem.wp_cmd_call]
  exact wpCode_mono (fun r s' h => by rcases r with _ | (_ | _ | _ | _) <;> exact h) (hc _ p rfl (i.enter _ none p (by intro x; cases x)) (enter_clean k))
theorem codeC_of_tree {c : Code} {R : Result → Shared → Prop} (hd : dirty c = false)
    (h : wpC M (A.under c) (M.den c) (fun fin s' => match fin with | .done f => R (.ok f) s' | .again c' => c'.quiet = true ∧ codeC M A c' R s') s) : codeC M A c R s := fun Γ p hc hΓ k => by
  rw [wpCode_iff_wp, hc]
  refine Sem.wp_mono M Γ _ (fun fin p' s' h' => ?_) (fun _ _ _ h' => h'.elim) p s (h Γ p (hc ▸ hΓ.in) ⟨hc ▸ hd, k⟩)
  cases fin with
  | done f => exact h'
  | again c' => exact ⟨h'.1, h'.2 (Γ.goto c') p' rfl (hΓ.goto c') k⟩
theorem any_clean {f : Code × Pos → Bool} (hf : ∀ c p, dirty c = false → f (c, p) = false) {Γ : PySem.Ctx} {p : Pos} (k : Cl Γ) : ((Γ.code, p) :: Γ.below).any f = false := by
  rw [List.any_eq_false]
  rintro ⟨c, q⟩ hx
  rcases List.mem_cons.mp hx with e | hx
  · cases e; rw [hf _ _ k.1]; exact Bool.false_ne_true
  · rw [hf _ _ (k.2 _ hx)]; exact Bool.false_ne_true
theorem wpC_exported {v : Value} {Q : Bool → Shared → Prop} (h : Q false s) : wpC M A (Builtin.Bytes.exported v) Q s := fun Γ p i k => by
  unfold Builtin.Bytes.exported
  show Q (((Γ.code, p) :: Γ.below).any _) s
  rw [any_clean ?_ k]
  · exact h
  · intro c q hd
    cases c with
    | builtin id args =>
      obtain ⟨pos, kw⟩ := args
      obtain ⟨d1, d2⟩ := Bool.or_eq_false_iff.mp hd
      have n1 : ¬ id = "bytearray.__contains__" := fun e => by rw [e] at d2; exact absurd d2 (by decide +kernel)
      have n2 : ¬ id = "bytearray.__mod__" := fun e => by rw [e] at d2; exact absurd d2 (by decide +kernel)
      have n3 : ¬ id = "bytearray.__rmod__" := fun e => by rw [e] at d2; exact absurd d2 (by decide +kernel)
      have n4 : ¬ id = "_struct.pack_into.held" := fun e => by rw [e] at d2; exact absurd d2 (by decide +kernel)
      have n5 : ¬ id = "bytearray.find.held" := fun e => by rw [e] at d2; exact absurd d2 (by decide +kernel)
      delta PySem.Builtin.Bytes.exported.match_1
      show (dite (id = "bytearray.__contains__") _ _) = false
      refine (dif_neg n1).trans ?_
      refine (dif_neg n2).trans ?_
      refine (dif_neg n3).trans ?_
      refine (dif_neg n4).trans ?_
      refine (dif_neg n5).trans ?_
      cases pos with
      | nil => rfl
      | cons a r => exact (congrArg (fun z => Builtin.Bytes.sameRef a v && z) d1).trans (Bool.and_false _)
    | _ => rfl
end
end Mine

open PySem PySem.W PyProof.Rows PySem.Calls PySem.Spec
set_option Elab.async false
set_option linter.unusedVariables false
namespace Mine
set_option maxRecDepth 100000
theorem clean_id {id : String} {args : Args} (h : (Builtin.Bytes.decodersThatHold.contains id || ["bytearray.__contains__", "bytearray.__mod__", "bytearray.__rmod__", "_struct.pack_into.held", "bytearray.find.held"].contains id) = false) : dirty (.builtin id args) = false := h
theorem ba_app_slot : Slot "bytearray" "append" "bytearray.append" :=
  .of (owner := "bytearray") (n := "append") (by rw [typeLookup_type, builtinLookup_eq_fast]; kernel_rfl) (by decide +kernel) (by decide +kernel) (by decide +kernel)
    (by first | exact .inl (by decide +kernel) | exact .inr (by decide +kernel)) (by rw [isSubtype_type]; kernel_rfl)
theorem ba_app_entry : entryFor table "bytearray.append" = some Builtin.«bytearray.append» := entryFor_of_tree (by kernel_rfl)
theorem ba_app_args (a b : Value) : argsOk "bytearray.append" ⟨[a, b], []⟩ := by unfold argsOk; kernel_rfl
abbrev baObj (b : Array UInt8) : Obj := { cls := .type "bytearray", data := .bytearray b }
section
variable {prog : Program} {w : World} {A : Around} {s : Shared} {R : Result → Shared → Prop}
abbrev Fins (prog : Program) (w : World) (A : Around) (R : Result → Shared → Prop) (fin : Fin) (s' : Shared) : Prop := match fin with | .done f => R (.ok f) s' | .again c' => c'.quiet = true ∧ codeC (model prog w) A c' R s'
theorem codeC_builtin {id : String} {args : Args} {b : Builtin} (hd : dirty (.builtin id args) = false) (hb : entryFor table id = some b)
    (h : wpC (model prog w) (A.under (.builtin id args)) (b args) (Fins prog w A R) s) : codeC (model prog w) A (.builtin id args) R s := by
  refine codeC_of_tree hd ?_
  show wpC _ _ (match entryFor table id with | some b => b args | none => unsupported ((withoutEnding? id "#data").getD id)) _ s
  rw [hb]; exact h
theorem codeC_call_builtin {id : String} {args : Args} {b : Builtin} (hd : dirty (.builtin id args) = false) (hq : plainId id = true) (hb : entryFor table id = some b)
    (h : wpAny (model prog w) A.in1 (checkBuiltinCall id args) (fun _ s₁ => wpC (model prog w) A.in1 (b args) (Fins prog w A R) s₁) NoX s) : codeC (model prog w) A (.call (.builtin id) args) R s := by
  refine codeC_of_tree rfl ?_
  show wpC _ A.in1 (do checkBuiltinCall id args; again (.builtin id args)) _ s
  refine wpC_lbind (wpAny_mono h (fun _ s₁ h₁ => wpC_pure (And.intro (plainId_quiet hq args) (codeC_builtin hd hb (by rw [Around.under_plainId hq args]; exact h₁)))) fun _ _ h' => h')
theorem wpC_checkResize {f : Addr} {b : Array UInt8} {Q : Unit → Shared → Prop} (hf : s.heap.get? f = some (baObj b)) (h : Q () s) : wpC (model prog w) A (Builtin.Bytes.checkResize (.ref f)) Q s := by
  unfold Builtin.Bytes.checkResize
  refine wpC_bind ?_
  show wpC _ _ (Builtin.Bytes.exported (.ref f) >>= _) _ _
  refine wpC_bind (wpC_exported ?_)
  show wpC _ _ ((Builtin.Bytes.exportsOf (.ref f)) >>= _) _ _
  unfold Builtin.Bytes.exportsOf
  refine wpC_bind (wpC_lbind (wpAny_load hf ?_))
  refine wpC_pure (wpC_pure ?_)
  exact wpC_pure h
theorem ba_append {f : Addr} {b : Array UInt8} {c : Int} {t : Tok} (hf : s.heap.get? f = some (baObj b)) (h0 : 0 ≤ c) (h1 : c < 256) (hz : b.size + 1 ≤ sizeLine)
    (h : R (.ok (.ret .none)) { s with heap := s.heap.update f (Obj.mapBytearray (·.push c.toNat.toUInt8)) }) : codeC (model prog w) A (.call (.builtin "bytearray.append") ⟨[.ref f, .int c t], []⟩) R s := by
  have hT : s.TypeIs (.ref f) "bytearray" := ⟨_, hf, rfl⟩
  refine codeC_call_builtin (clean_id (by decide +kernel)) ba_app_slot.plain ba_app_entry (ba_app_slot.check _ _ _ _ _ _ _ _ hT (ba_app_args _ _) ?_)
  unfold Builtin.«bytearray.append»
  refine wpC_lbind (wpAny_of_eq (a := (Value.ref f, Value.int c t)) rfl ?_)
  dsimp only
  refine wpC_bind ?_
  unfold Builtin.Bytes.byteValue
  refine wpC_lbind (wpAny_of_eq (rfl : asIndex (.int c t) = pure c) ?_)
  rw [show (decide (c < 0) || decide (c ≥ 256)) = false by simp only [Bool.or_eq_false_iff, decide_eq_false_iff_not]; (first | lia | omega)]
  simp only [Bool.false_eq_true, if_false]
  refine wpC_pure (wpC_bind (wpC_checkResize hf ?_))
  refine wpC_bind ?_
  show wpC _ _ (updateBytearray f _) _ _
  unfold updateBytearray
  refine wpC_lbind (wpAny_load hf ?_)
  dsimp only
  refine wpC_lbind (wpAny_update hf ?_)
  refine wpC.of (wpAny_lookBehind (Heap.get?_update_self _ hf rfl) ?_ ?_)
  · show (if (b.push _).size > sizeLine then some "bytearray:memory" else none) = none
    rw [if_neg]; rw [Array.size_push]; (first | lia | omega)
  · exact wpC_pure h
end
end Mine

open PySem PySem.W PyProof.Rows PySem.Calls PySem.Spec
set_option Elab.async false
set_option linter.unusedVariables false
set_option pp.maxSteps 2000
namespace Mine
set_option maxRecDepth 100000
set_option maxHeartbeats 4000000
theorem cF {M : Model} {A : Around} {α : Type} {X Y : Sem α} {Q : α → Shared → Prop} {s : Shared} (h : wpC M A Y Q s) : wpC M A (if false = true then X else Y) Q s := by rw [if_neg Bool.false_ne_true]; exact h
theorem aF {M : Model} {A : Around} {α : Type} {X Y : Sem α} {Q : α → Shared → Prop} {E : Value → Shared → Prop} {s : Shared} (h : wpAny M A Y Q E s) : wpAny M A (if false = true then X else Y) Q E s := by rw [if_neg Bool.false_ne_true]; exact h
theorem aFe {M : Model} {A : Around} {α : Type} {b : Bool} {X Y : Sem α} {Q : α → Shared → Prop} {E : Value → Shared → Prop} {s : Shared} (e : b = false) (h : wpAny M A Y Q E s) : wpAny M A (if b = true then X else Y) Q E s := by subst e; exact aF h
theorem bn_mro : mroOf (.type "bytearray") = pure [.type "bytearray", .type "object"] := by rw [mroOf_type]; kernel_rfl
theorem bn_lookup : typeLookup (.type "bytearray") "__new__" = pure (some (.builtin "bytearray.__new__")) := by rw [typeLookup_type, builtinLookup_eq_fast]; kernel_rfl
theorem bn_init : Slot "bytearray" "__init__" "bytearray.__init__" :=
  .of (owner := "bytearray") (n := "__init__") (by rw [typeLookup_type, builtinLookup_eq_fast]; kernel_rfl) (by decide +kernel) (by decide +kernel) (by decide +kernel)
    (by first | exact .inl (by decide +kernel) | exact .inr (by decide +kernel)) (by rw [isSubtype_type]; kernel_rfl)
theorem bn_called : TypeCalled "bytearray" "bytearray.__new__" "bytearray.__init__" :=
  ⟨by decide +kernel, by decide +kernel, ⟨_, _, bn_mro⟩, madeBy_type bn_mro bn_lookup (by decide +kernel), by decide +kernel, by rw [isSubtype_type]; kernel_rfl, bn_init⟩
theorem bn_typeCall : checkTypeCall "bytearray" ⟨[], []⟩ = pure () := by kernel_rfl
theorem bn_newCall : checkBuiltinCall "bytearray.__new__" ⟨[.type "bytearray"], []⟩ = pure () := by kernel_rfl
theorem bn_entry : entryFor table "bytearray.__new__" = some Builtin.«list.__new__» := entryFor_alias (id' := "list.__new__") (by kernel_rfl) rfl (by decide +kernel) (by kernel_rfl)
theorem bn_entryI : entryFor table "bytearray.__init__" = some Builtin.«bytearray.__init__» := entryFor_of_tree (by kernel_rfl)
theorem bn_plain : plainId "bytearray.__new__" = true := by decide +kernel
theorem bn_sub : isSubtype (.type "bytearray") (.type "bytearray") = pure true := by rw [isSubtype_type]; kernel_rfl
theorem bn_argsI (a : Value) : argsOk "bytearray.__init__" ⟨[a], []⟩ := by unfold argsOk; kernel_rfl
theorem bn_owner : ("bytearray.__new__".splitOn ".__new__").headD "" = "bytearray" := by simp +decide [String.splitOn, String.splitOnAux]
section
variable {prog : Program} {w : World} {A : Around} {E : Value → Shared → Prop} {s : Shared} {R : Result → Shared → Prop}
theorem bn_new {Q₁ : Value → Shared → Prop} (h : Q₁ (.ref s.heap.objs.size) { s with heap := s.heap.push (baObj #[]) }) :
    codeAny (model prog w) A (.call (.builtin "bytearray.__new__") ⟨[.type "bytearray"], []⟩) (wants Q₁ E) s := by
  refine codeAny_of_tree ?_
  show wpAny _ A.in1 (do checkBuiltinCall "bytearray.__new__" ⟨[.type "bytearray"], []⟩; again (.builtin "bytearray.__new__" ⟨[.type "bytearray"], []⟩)) _ _ s
  refine wpAny_bind (wpAny_of_eq bn_newCall (wpAny_pure ⟨plainId_quiet bn_plain _, codeAny_builtin_stack bn_entry rfl fun p st => ?_⟩))
  rw [Around.under_plainId bn_plain _]
  have hsub := bn_sub
  have hown := bn_owner
  obtain ⟨hp, g, d, tk, os⟩ := s
  simp only [hown]
  wp_walk
  exact h

theorem bn_rel : typeLookup (.type "bytearray") "__release_buffer__" = pure (some (.builtin "bytearray.__release_buffer__")) := by rw [typeLookup_type, builtinLookup_eq_fast]; kernel_rfl
theorem wpAny_ownRelease {M : Model} {f : Addr} {Q : Bool → Shared → Prop} (hT : s.TypeIs (.ref f) "bytearray") (h : Q false s) : wpAny M A (Builtin.Bytes.ownRelease (.ref f)) Q E s := by
  unfold Builtin.Bytes.ownRelease Builtin.Bytes.slotIsOwn
  refine wpAny_bind (wpAny_bind (wpAny_specialOf hT bn_rel ?_))
  dsimp only
  rw [show ("bytearray.__release_buffer__".endsWith ("." ++ "__release_buffer__")) = true by decide +kernel, show ("bytearray.__release_buffer__".dropRight ("__release_buffer__".length + 1)) = "bytearray" by decide +kernel]
  refine aF ?_
  exact wpAny_isInstance hT bn_sub (wpAny_pure h)
theorem bn_bind : Builtin.Bytes.bindOptional "bytearray.__init__" "bytearray" ["source", "encoding", "errors"] [] [] = pure [none, none, none] := by kernel_rfl
theorem bn_initTree {f : Addr} {Q : Fin → Shared → Prop} (hf : s.heap.get? f = some (baObj #[]))
    (h : Q (.done (.ret .none)) { s with heap := s.heap.update f (Obj.mapBytearray fun _ => #[]) }) : wpC (model prog w) A (Builtin.«bytearray.__init__» ⟨[.ref f], []⟩) Q s := by
  have hT : s.TypeIs (.ref f) "bytearray" := ⟨_, hf, rfl⟩
  unfold Builtin.«bytearray.__init__»
  refine wpC_lbind (wpAny_ownRelease hT ?_)
  refine cF ?_
  refine wpC_lbind (wpAny_of_eq bn_bind ?_)
  dsimp only
  refine wpC_lbind (wpAny_of_eq (a := ()) rfl ?_)
  refine wpC_lbind (wpAny_of_eq (a := ()) rfl ?_)
  refine wpC_bind ?_
  show wpC _ _ (Builtin.Bytes.exported (.ref f) >>= _) _ _
  refine wpC_bind (wpC_exported ?_)
  show wpC _ _ ((Builtin.Bytes.exportsOf (.ref f)) >>= _) _ _
  unfold Builtin.Bytes.exportsOf
  refine wpC_bind (wpC_lbind (wpAny_load hf ?_))
  refine wpC_pure (wpC_pure ?_)
  refine wpC_bind ?_
  show wpC _ _ (updateBytearray f _) _ _
  unfold updateBytearray
  refine wpC_lbind (wpAny_load hf ?_)
  dsimp only
  refine wpC_lbind (wpAny_update hf ?_)
  refine wpC.of (wpAny_lookBehind (Heap.get?_update_self _ hf rfl) rfl ?_)
  refine wpC_lbind (wpAny_of_eq (a := ()) rfl ?_)
  exact wpC_pure h
theorem ba_made {Q : Value → Shared → Prop} (h : ∀ h', (∀ b o, s.heap.get? b = some o → h'.get? b = some o) → h'.get? s.heap.objs.size = some (baObj #[]) → Q (.ref s.heap.objs.size) { s with heap := h' }) :
    wpC (model prog w) A (call (.type "bytearray") [] []) Q s := by
  have hmade := bn_called.made
  have h1 := bn_called.notType
  have h2 := bn_called.canCreate
  refine wpC_call (codeC_of_tree rfl ?_)
  show wpC _ _ (callAny (.type "bytearray") _) _ _
  refine wpC_pure ⟨Code.quiet_builtin _ (by decide +kernel), codeC_builtin (clean_id (by decide +kernel)) F.entry_type_call ?_⟩
  rw [Around.under_plain (weight_type_call_type "bytearray" [] []) rfl]
  unfold Builtin.«type.__call__»
  dsimp only
  simp only [h1, Bool.false_eq_true, if_false]
  rw [h2]
  refine cF ?_
  refine wpC_lbind (wpAny_of_eq bn_typeCall ?_)
  refine wpC_lbind (wpAny_of_eq bn_mro ?_)
  dsimp only [List.isEmpty_cons]
  refine cF ?_
  refine wpC_lbind (wpAny_of_eq hmade ?_)
  dsimp only
  refine wpC_bind (wpC_pure ?_)
  refine wpC_bind (wpC_holding (wpC_call (codeC.of (codeAny_mono (bn_new (E := NoX) (Q₁ := fun v s₁ => v = .ref s.heap.objs.size ∧ s₁ = { s with heap := s.heap.push (baObj #[]) }) ⟨rfl, rfl⟩) fun r s₁ hr => ?_))))
  rcases r with _ | (_ | _ | _ | _) <;> try exact hr.elim
  obtain ⟨rfl, rfl⟩ := hr
  have hf : (s.heap.push (baObj #[])).get? s.heap.objs.size = some (baObj #[]) := Heap.get?_push_size _ rfl
  have hT : ({ s with heap := s.heap.push (baObj #[]) } : Shared).TypeIs (.ref s.heap.objs.size) "bytearray" := ⟨_, hf, rfl⟩
  show wpC _ _ _ _ _
  refine wpC_lbind (wpAny_isInstance hT bn_sub ?_)
  simp only [Bool.not_true, Bool.false_eq_true, if_false]
  refine wpC_bind (wpC_holding ?_)
  unfold callSpecial?
  refine wpC_lbind (wpAny_specialOf hT bn_init.lookup ?_)
  dsimp only
  refine wpC_holding ?_
  refine wpC_lbind (wpAny_of_eq (bn_init.bind _) ?_)
  dsimp only [List.cons_append, List.nil_append]
  refine wpC_bind (wpC_call (codeC_call_builtin (clean_id (by decide +kernel)) bn_init.plain bn_entryI (bn_init.check _ _ _ _ _ _ _ _ hT (bn_argsI _) (bn_initTree hf ?_))))
  refine wpC_pure ?_
  show wpC _ _ (if (Value.none != Value.none) = true then _ else _) _ _
  rw [if_neg (by decide)]
  refine wpC_pure (h _ (fun b o e => ?_) (Heap.get?_update_self _ hf rfl))
  exact (Heap.get?_update_other _ _ (Ne.symm (Nat.ne_of_lt (Heap.lt_size e)))).trans (Heap.get?_push_of_some _ e)
end
end Mine

open PySem PySem.W PyProof.Rows PySem.Calls PySem.Spec
set_option Elab.async false
set_option linter.unusedVariables false
set_option pp.maxSteps 2000
namespace Mine
set_option maxRecDepth 100000
set_option maxHeartbeats 4000000
theorem bc_no_bytes : typeLookup (.type "bytearray") "__bytes__" = pure none := by rw [typeLookup_type, builtinLookup_eq_fast]; kernel_rfl
theorem bc_no_index : typeLookup (.type "bytearray") "__index__" = pure none := by rw [typeLookup_type, builtinLookup_eq_fast]; kernel_rfl
theorem bc_buffer : typeLookup (.type "bytearray") "__buffer__" = pure (some (.builtin "bytearray.__buffer__")) := by rw [typeLookup_type, builtinLookup_eq_fast]; kernel_rfl
section
variable {prog : Program} {w : World} {A : Around} {E : Value → Shared → Prop} {s : Shared}
theorem bc_slotIsOwn {M : Model} {f : Addr} {Q : Bool → Shared → Prop} (hT : s.TypeIs (.ref f) "bytearray") (h : Q true s) : wpAny M A (Builtin.Bytes.slotIsOwn (.ref f) "__buffer__") Q E s := by
  unfold Builtin.Bytes.slotIsOwn
  refine wpAny_bind (wpAny_specialOf hT bc_buffer ?_)
  dsimp only
  rw [show ("bytearray.__buffer__".endsWith ("." ++ "__buffer__")) = true by decide +kernel, show ("bytearray.__buffer__".dropRight ("__buffer__".length + 1)) = "bytearray" by decide +kernel]
  refine aF ?_
  exact wpAny_isInstance hT bn_sub h
theorem bc_buffer? {f : Addr} {b : Array UInt8} {Q : Option (Array UInt8) → Shared → Prop} (hf : s.heap.get? f = some (baObj b)) (h : Q (some b) s) : wpAny (model prog w) A (Builtin.Bytes.buffer? "bytes.__new__" (.ref f) true) Q E s := by
  have hT : s.TypeIs (.ref f) "bytearray" := ⟨_, hf, rfl⟩
  unfold Builtin.Bytes.buffer?
  refine wpAny_bind (wpAny_specialOf hT bc_buffer ?_)
  dsimp only
  refine wpAny_bind (bc_slotIsOwn hT ?_)
  refine aF ?_
  refine wpAny_bind (wpAny_specialOf hT bc_buffer ?_)
  try dsimp only
  refine wpAny_bind (wpAny_ownRelease hT ?_)
  refine aF ?_
  refine wpAny_bind ?_
  unfold Builtin.Bytes.payload Builtin.Bytes.payload?
  refine wpAny_bind (wpAny_bind (wpAny_load hf ?_))
  exact wpAny_pure (wpAny_pure (wpAny_pure h))
theorem bc_new {f : Addr} {b : Array UInt8} {Q : Value → Shared → Prop} (hf : s.heap.get? f = some (baObj b)) (hz : b.size ≤ sizeLine) (hQ : ∀ t k, Q (.bytes b t) { s with toks := k }) :
    codeAny (model prog w) A (.call (.builtin "bytes.__new__") ⟨[.type "bytes", .ref f], []⟩) (wants Q E) s := by
  have hT : s.TypeIs (.ref f) "bytearray" := ⟨_, hf, rfl⟩
  refine codeAny_of_tree ?_
  show wpAny _ A.in1 (do checkBuiltinCall "bytes.__new__" ⟨[.type "bytes", .ref f], []⟩; again (.builtin "bytes.__new__" ⟨[.type "bytes", .ref f], []⟩)) _ _ s
  refine wpAny_bind (wpAny_of_eq (PySem.F.bm_newCall _) (wpAny_pure ⟨plainId_quiet PySem.F.bm_plain _, codeAny_builtin PySem.F.bm_entry ?_⟩))
  rw [Around.under_plainId PySem.F.bm_plain _]
  unfold Builtin.«bytes.__new__»
  refine wpAny_bind (wpAny_of_eq (a := true) rfl ?_)
  refine aF ?_
  refine wpAny_bind (wpAny_of_eq PySem.F.bm_sub ?_)
  refine aF ?_
  refine wpAny_bind (wpAny_of_eq (PySem.F.bm_bind _) ?_)
  refine wpAny_bind (wpAny_of_eq (a := ()) rfl ?_)
  refine wpAny_bind (wpAny_of_eq (a := ()) rfl ?_)
  refine aF ?_
  refine wpAny_bind (wpAny_specialOf hT bc_no_bytes ?_)
  refine wpAny_bind (wpAny_bind ?_)
  show wpAny _ _ (load f >>= _) _ _ _
  refine wpAny_bind (wpAny_load hf ?_)
  refine wpAny_pure (wpAny_pure ?_)
  refine aF ?_
  refine wpAny_bind (wpAny_specialOf hT bc_no_index ?_)
  simp only [Option.isNone_none, if_true]
  first
    | show wpAny _ _ (Builtin.Bytes.buffer? "bytes.__new__" (.ref f) true >>= _) _ _ _
    | (refine wpAny_bind ?_; show wpAny _ _ (Builtin.Bytes.buffer? "bytes.__new__" (.ref f) true >>= _) _ _ _)
  refine wpAny_bind (bc_buffer? hf ?_)
  refine wpAny_bind (wpAny_rule (wpAny_bind (wpAny_mkBytes ?_ hz)))
  show wpAny _ _ (if (Value.type "bytes" == Value.type "bytes") = true then _ else _) _ _ _
  rw [if_pos (by decide)]
  first
    | exact wpAny_pure (hQ _ _)
    | exact wpAny_bind (wpAny_pure (wpAny_pure (hQ _ _)))
theorem bytes_ba {f : Addr} {b : Array UInt8} {Q : Value → Shared → Prop} (hf : s.heap.get? f = some (baObj b)) (hz : b.size ≤ sizeLine) (hQ : ∀ t k, Q (.bytes b t) { s with toks := k }) :
    wpAny (model prog w) A (call (.type "bytes") [.ref f]) Q E s := by
  refine callType_codes (Q₁ := fun obj s₁ => s₁.TypeIs obj "bytes" ∧ Q obj s₁) PySem.F.bm_called (PySem.F.bm_typeCall _) PySem.F.entry_object_init
    (bc_new hf hz fun t k => ⟨PySem.W.typeIs_bytes _ _ _, hQ t k⟩) fun obj s₁ h₁ => ?_
  exact ⟨h₁.1, PySem.F.args_object_init_2 obj _, object_init_meets PySem.F.bm_called.init.lookup PySem.F.bm_called.made (by decide) prog w A.in1 _ s₁ ⟨h₁.1, rfl, h₁.2⟩⟩
end
end Mine

open PySem PySem.W PyProof.Rows PySem.Calls PySem.Spec
set_option Elab.async false
set_option linter.unusedVariables false
set_option pp.maxSteps 2000
namespace Mine
set_option maxRecDepth 100000
set_option maxHeartbeats 4000000
section
variable {M : Model} {A : Around} {s : Shared} {env : Env}
theorem c_nil {Q : Flow → Shared → Prop} (h : Q .next s) : wpC M A (execs [] env) Q s := wpC_pure h
theorem c_cons {st rest} {Q : Flow → Shared → Prop} (h : wpC M A (exec st env) (fun f s' => match f with | .next => wpC M A (execs rest env) Q s' | f => Q f s') s) : wpC M A (execs (st :: rest) env) Q s := by
  rw [execs_cons]
  refine wpC_bind (wpC_mono h fun f s' h' => ?_)
  cases f <;> first | exact h' | exact wpC_pure h'
theorem c_Expr {e pos} {Q : Flow → Shared → Prop} (h : wpC M A (eval e env) (fun v s' => v = .none ∧ Q .next s') s)
    (hi : interactive env = false := by rfl) (hs : swapsWith e none pos.line env = pure false := by rfl) : wpC M A (exec (.Expr e pos) env) Q s := by
  rw [exec_Expr env e pos hi hs]
  refine wpC_lbind (wpAny_standAt (wpC_bind (wpC_mono h fun v s' h' => ?_)))
  obtain ⟨rfl, h'⟩ := h'
  rw [dropValue_plain (by intro a e; cases e)]
  exact wpC_pure h'
theorem c_AssignName {x pos' value pos} {Q : Flow → Shared → Prop} (h : wpC M A (eval value env) (fun v s₁ => wpAny M A (storeName env x v) (fun _ => Q .next) NoX s₁) s)
    (hs : swapsWith value (some (.Name x pos')) pos.line env = pure false := by rfl) : wpC M A (exec (.Assign [.Name x pos'] value pos) env) Q s := by
  rw [exec_Assign_Name env x pos' value pos hs]
  refine wpC_lbind (wpAny_standAt (wpC_bind (wpC_mono h fun v s₁ h₁ => ?_)))
  exact wpC_lbind (wpAny_standAt (wpC_lbind (wpAny_bindName (wpAny_mono h₁ (fun _ _ h₂ => wpC_pure h₂) fun _ _ e => e))))
theorem c_AssignAttr {o attr pos' value pos} {Q : Flow → Shared → Prop} (h : wpC M A (eval value env) (fun v s₁ => wpAny M A (eval o env) (fun ov s₂ => wpAny M A (setAttr ov attr v) (fun _ => Q .next) NoX s₂) NoX s₁) s)
    (hs : swapsWith value (some (.Attribute o attr pos')) pos.line env = pure false := by rfl) : wpC M A (exec (.Assign [.Attribute o attr pos'] value pos) env) Q s := by
  rw [plainObj_exec_Assign_Attribute o attr pos' value pos hs]
  refine wpC_lbind (wpAny_standAt (wpC_bind (wpC_mono h fun v s₁ h₁ => ?_)))
  rw [assign_Attribute]
  refine wpC_bind (wpC_lbind (wpAny_holding (wpAny_mono h₁ (fun ov s₂ h₂ => ?_) fun _ _ e => e)))
  refine wpC_lbind (wpAny_standAt (wpC_lbind (wpAny_holding (wpAny_mono h₂ (fun _ s₃ h₃ => ?_) fun _ _ e => e))))
  exact wpC.of (fun Γ p _ => by rw [Sem.wp_release]; exact fun Γ' p' i c => h₃)
theorem c_Return {e pos} {Q : Flow → Shared → Prop} (h : wpC M A (eval e env) (fun v => Q (.ret v)) s) : wpC M A (exec (.Return (some e) pos) env) Q s := by
  rw [exec_Return_some]
  exact wpC_lbind (wpAny_standAt (wpC_bind (wpC_mono h fun v s' h' => wpC_pure h')))
theorem c_If {test body orelse pos} {Q : Flow → Shared → Prop} (h : wpC M A (isTrue test env (eval test env)) (fun b s₂ => if b then wpC M A (execs body env) Q s₂ else wpC M A (execs orelse env) Q s₂) s) : wpC M A (exec (.If test body orelse pos) env) Q s := by
  rw [exec_If]
  refine wpC_lbind (wpAny_standAt (wpC_bind (wpC_mono h fun b s₂ h₂ => ?_)))
  cases b
  · simpa using h₂
  · simpa using h₂
theorem c_callWith {P : Heap → Prop} {pos : Pos} {f : Value} {first : List Value} {args : List (Bool × Sem Value)} {keywords : List (Option Str × Sem Value)} {Q : Value → Shared → Prop} (hplain : (args.any (·.1) || keywords.any (·.1.isNone)) = false)
    (hk : ∀ h, P h → ∃ k, (k = Keeper.frame ∨ k = Keeper.machine ∨ k = Keeper.boundFrame) ∧ Looks M h (keeperOf f) k)
    (h : wpAny M A (evalArgs f true args keywords) (fun a s₁ => P s₁.heap ∧ wpC M A (call f (first ++ a.pos) a.kw) Q s₁) NoX s) : wpC M A (callWith pos f first args keywords) Q s := by
  unfold callWith
  refine wpC_lbind (wpAny_holding (wpAny_mono h (fun a s₁ h₁ => wpC_lbind (wpAny_standAt ?_)) fun _ _ x => x))
  obtain ⟨k, hk', L⟩ := hk _ h₁.1
  simp only [hplain]
  refine wpC_look L (fun _ _ e => e) ?_
  have tail : ∀ {t : Sem Value}, wpC M A t Q s₁ → wpC M A (t >>= fun r => holding [r] point >>= fun _ => pure r) Q s₁ :=
    fun ht => wpC_bind (wpC_mono ht fun r s₂ hr => wpC_lbind (wpAny_holding (wpAny_point (wpC_pure hr))))
  have marked (mk : Value) : wpC M A (callMarked mk f (first ++ a.pos) a.kw) Q s₁ := by unfold callMarked; exact wpC_keep h₁.2
  rcases hk' with rfl | rfl | rfl <;> dsimp only <;> first | exact tail h₁.2 | (split <;> first | exact tail h₁.2 | exact tail (marked _))
end
end Mine

open PySem PySem.W PyProof.Rows PySem.Calls PySem.Spec
set_option Elab.async false
set_option linter.unusedVariables false
set_option pp.maxSteps 2000
namespace Mine
set_option maxRecDepth 100000
set_option maxHeartbeats 4000000
section
variable {M : Model} {A : Around} {s : Shared} {env : Env}
theorem c_CallName {func : Expr} {args : List Expr} {pos : Pos} {Q : Value → Shared → Prop}
    (h : wpAny M A (eval func env) (fun f s₁ => wpC M A (callWith pos f [] (backTo pos (starEach args env)) []) Q s₁) NoX s)
    (he : eval (.Call func args [] pos) env = (do callWith pos (← eval func env) [] (backTo pos (starEach args env)) (backToKw pos (keywordEach [] env))) := by rfl) : wpC M A (eval (.Call func args [] pos) env) Q s := by
  rw [he]; exact wpC_lbind h
theorem c_CallMeth {o : Expr} {name : Str} {apos pos : Pos} {args : List Expr} {pl : Sem Bool} {Q : Value → Shared → Prop}
    (h : wpAny M A (eval o env) (fun ov s₁ => wpAny M A (getMethod ov name pl) (fun fx s₂ => wpC M A (callWith pos fx.1 fx.2 (backTo pos (starEach args env)) (backToKw pos (keywordEach [] env))) Q s₂) NoX s₁) NoX s)
    (he : eval (.Call (.Attribute o name apos) args [] pos) env = (do
      let ov ← eval o env
      standAt apos.atName
      let (f, first) ← holding [ov] (getMethod ov name pl)
      callWith pos f first (backTo pos (starEach args env)) (backToKw pos (keywordEach [] env))) := by rfl) : wpC M A (eval (.Call (.Attribute o name apos) args [] pos) env) Q s := by
  rw [he]
  exact wpC_lbind (wpAny_mono h (fun ov s₁ h₁ => wpC_lbind (wpAny_standAt (wpC_lbind (wpAny_holding h₁)))) fun _ _ e => e)
theorem c_CallMeth' {o : Expr} {name : Str} {apos pos : Pos} {args : List Expr} {pl : Sem Bool} {Q : Value → Shared → Prop}
    (h : wpAny M A (eval o env) (fun ov s₁ => wpAny M A (getMethod ov name pl) (fun fx s₂ => wpC M A (callWith pos fx.1 fx.2 (backTo pos (starEach args env)) []) Q s₂) NoX s₁) NoX s)
    (he : eval (.Call (.Attribute o name apos) args [] pos) env = (do
      let ov ← eval o env
      standAt apos.atName
      let (f, first) ← holding [ov] (getMethod ov name pl)
      callWith pos f first (backTo pos (starEach args env)) (backToKw pos (keywordEach [] env))) := by rfl) : wpC M A (eval (.Call (.Attribute o name apos) args [] pos) env) Q s := c_CallMeth h he
theorem c_not {x pos whole} {Q : Bool → Shared → Prop} (h : wpC M A (isTrue x env (eval x env)) (fun c s' => Q (!c) s') s) : wpC M A (isTrue (.UnaryOp .Not x pos) env whole) Q s := by
  show wpC M A (do return !(← isTrue x env (eval x env))) Q s
  exact wpC_bind (wpC_mono h fun c s' h' => wpC_pure h')
theorem c_plain {e : Expr} {whole : Sem Value} {Q : Bool → Shared → Prop} (h : wpC M A whole (fun v s₁ => wpAny M A (truthy v) Q NoX s₁) s)
    (he : isTrue e env whole = (do let v ← whole; standAt e.pos; holding [v] (truthy v)) := by rfl) : wpC M A (isTrue e env whole) Q s := by
  rw [he]
  exact wpC_bind (wpC_mono h fun v s₁ h₁ => wpC_lbind (wpAny_standAt (.of (wpAny_holding h₁))))
theorem c_Compare {l op r pos} {Q : Value → Shared → Prop} (h : wpC M A (eval l env) (fun a s₁ => wpAny M A (eval r env) (fun b s₂ => wpAny M A (compareOp op a b) Q NoX s₂) NoX s₁) s)
    (hm : behindInMarks op r = false := by with_unfolding_all rfl) : wpC M A (eval (.Compare l [op] [r] pos) env) Q s := by
  rw [eval_Compare1, markedBehindIn_of_false hm]
  refine wpC_bind (wpC_mono h fun a s₁ h₁ => ?_)
  exact wpC_lbind (wpAny_holding (wpAny_mono h₁ (fun b s₂ h₂ => wpC_lbind (wpAny_standAt (.of fun Γ p i => by rw [Sem.wp_operate]; exact h₂ Γ p i))) fun _ _ e => e))
end
section
variable {prog : Program} {w : World} {A : Around} {s : Shared} {R : Result → Shared → Prop}
theorem codeC_func {body : List Stmt} {env : Env} (h : wpC (model prog w) (A.deeper env) (execs body env) (fun f s' => R (.ok (.ret (match f with | .ret v => v | _ => .none))) s') s) : codeC (model prog w) A (.func body env) R s := by
  refine codeC_of_tree rfl ?_
  show wpC _ (A.deeper env) (do point; match ← (execs body env).onRaise (leaving env) with | .ret v => ret v | _ => ret .none) _ s
  refine wpC_lbind (wpAny_point (wpC_bind (wpC_onRaise (wpC_mono h fun f s' h' => ?_))))
  cases f <;> exact wpC_pure h'
theorem codeC_call_function {a : Addr} {args : Args} {o : Obj} {fd : FuncData} {body : List Stmt} (hroom : A.depth < recursionLimit) (ho : s.heap.get? a = some o)
    (hd' : o.data = .func fd) (hco : fd.scope.isCoroutine = false) (hgen : fd.scope.isGenerator = false) (hbody : fd.body = .stmts body) (hcd : s.heap.CodeRec fd.code fd.qualname)
    (h : wpAny (model prog w) A.in1 (bindArgs fd args) (fun binds s₁ => wpAny (model prog w) A.in1 (newFunctionEnv fd.scope fd.globals fd.closure binds (fd.qualname ++ ".<locals>.") (some a) fd.code none fd.builtins)
        (fun env s₂ => s₂.heap.NoLimit ∧ codeC (model prog w) A (.func body env) R s₂) NoX s₁) NoX s) : codeC (model prog w) A (.call (.ref a) args) R s := by
  refine codeC_of_tree rfl ?_
  show wpC _ A.in1 (callAny (.ref a) args) _ s
  simp only [callAny]
  refine wpC_lbind (wpAny_load ho ?_)
  obtain ⟨c, oc, vs, tq, hc, hoc, hdc, hq⟩ := hcd
  simp only [hd', callFunction, hco, hgen, hbody, hc]
  rw [hc] at h
  refine wpC_lbind (m := field (.ref c) 1) (wpAny_field hoc hdc hq (wpC_lbind (wpAny_pure ?_)))
  exact wpC_lbind (wpAny_mono h (fun binds s₁ h₁ => wpC_lbind (wpAny_mono h₁ (fun env s₂ h₂ => wpC_lbind (wpAny_enterFrame h₂.1 hroom (wpC_pure (And.intro rfl h₂.2)))) fun _ _ h' => h')) fun _ _ h' => h')
end
section
variable {w : World} {dp un : Nat} {fr : Option (List Env)} {gd : Option (List Code)} {h₀ : Heap} {s : Shared} {R : Result → Shared → Prop}
theorem beginC {f : Addr} {vs : List Value} (S : List (Addr × Obj)) (binds : List (Str × Value)) {st : Stmt}
    {n name qual : Str} {a : Arguments} {b : List Stmt} {d r tp ts bd ps} {sc : Scope} {pm cdv : Value}
    (C : Stc w h₀) (k : h₀.StaysIn s.heap) (hS : ∀ p ∈ S, s.heap.get? p.1 = some p.2 ∧ h₀.get? p.1 = none)
    (ho : (kk w.params).lookup f = some ⟨.type "function", none, .func (fnOf name qual (fArgs st) (fBody st) (fScope st) .none .none .none pm none cdv .none), #[]⟩)
    (he : st = .FunctionDef n a b d r tp sc ts bd ps)
    (hcd : codeIn (kk w.params) cdv qual = true) (hroom : dp < recursionLimit)
    (hbind : bindArgs (fnOf name qual a b sc .none .none .none pm none cdv .none) ⟨vs, []⟩ = pure binds) (hsc : fine sc binds = true)
    (h : ∀ g L h₁ mean mg mb tk, Fr g L h₁ (fun y => binds.reverse.lookup y) → News g L h₁ S → (kk w.params).In g → Top vq (looseW vq lo) mean mg mb g → Ent s g S → Stc w g → h₀.StaysIn g →
      wpC (model pw w) ((ar dp fr gd un).deeper (envOf qual sc L f cdv)) (execs b (envOf qual sc L f cdv)) (fun fl s' => R (.ok (.ret (match fl with | .ret v => v | _ => .none))) s') { s with heap := h₁, toks := tk }) :
    codeC (model pw w) (ar dp fr gd un) (.call (.ref f) ⟨vs, []⟩) R s := by
  subst he
  obtain ⟨mean, mg, mb, T⟩ := C.T
  simp only [fine, Bool.and_eq_true, Bool.not_eq_true'] at hsc
  obtain ⟨⟨⟨⟨h1, h2⟩, h3⟩, h4⟩, h5⟩ := hsc
  have h3' : sc.kind = .function := by revert h3; cases sc.kind <;> simp
  have nm : ∀ b o, h₀.get? b = some o → b ∉ S.map (·.1) := fun b o e q => by
    obtain ⟨p, hp, rfl⟩ := List.mem_map.mp q
    rw [(hS p hp).2] at e; cases e
  have kg : h₀.StaysIn (hideAll s.heap (S.map (·.1))) := fun b o e => hideAll_get _ (k b o e) (nm b o e)
  refine codeC_call_function (fd := fnOf name qual a b sc .none .none .none pm none cdv .none) (body := b) hroom ((C.X.keeps k) _ _ ho) rfl h1 h2 rfl (codeRec_of (C.X.keeps k) hcd) ((BindsTo.of_eq hbind) _ _ _ _ ?_)
  refine wpAny_newFunctionEnv (fun x hx q => by have := List.all_eq_true.mp h4 x hx; rw [q] at this; cases this) (fun x hx => of_decide_eq_true (List.all_eq_true.mp h5 x hx)) (fun h₁ hns hsb => ⟨(T.nolimit.keeps k).fresh _ hsb, codeC_func ?_⟩) h3'
  have hk₁ : ∀ b o, s.heap.get? b = some o → h₁.get? b = some o := fun b o e => hsb.extBut b o (Nat.ne_of_lt (Heap.lt_size e)) (Heap.get?_push_of_some _ e)
  exact h _ s.heap.objs.size h₁ mean mg mb _ ⟨hns, fun b o e => hk₁ b o (of_hideAll _ e), Nat.le_of_eq (hideAll_size _ _)⟩ (fun p hp => ⟨hk₁ _ _ (hS p hp).1, Nat.ne_of_lt (Heap.lt_size (hS p hp).1), hideAll_none _ (List.mem_map_of_mem hp)⟩)
    (C.X.keeps kg) (T.keeps kg) ⟨fun p hp => (hS p hp).1, fun x o q e => hideAll_get _ e q⟩ ⟨C.X.keeps kg, mean, mg, mb, T.keeps kg⟩ kg
end
end Mine

open PySem PySem.W PyProof.Rows PySem.Calls PySem.Spec
set_option Elab.async false
set_option linter.unusedVariables false
set_option pp.maxSteps 2000
namespace Mine
set_option maxRecDepth 100000
set_option maxHeartbeats 4000000
section
variable {prog : Program} {w : World} {A : Around} {K : Frag} {C : Addr} {R : Result → Shared → Prop} {h : Heap} {g : Array GenState} {d : Drawn} {t : Nat} {os : OsState}
theorem c_make {rest : List Value} {init : Value} (Y : Makes (model prog w) h C) (hi : Looks (model prog w) h (typeLookup (.ref C) "__init__") (some init))
    (hb : ∀ self, Looks (model prog w) h (bindSpecial init self) (init, [self])) (hne : (some init != some (Value.builtin "object.__init__")) = true)
    (hq : codeC (model prog w) (A.under (.builtin "type.__call__" ⟨.ref C :: rest, []⟩)) (.call init ⟨.ref (h.objs.size + 1) :: rest, []⟩) (fun r s' => match r with | .ok (.ret v) => v = .none ∧ R (.ok (.ret (.ref (h.objs.size + 1)))) s' | _ => False) ⟨(h.push emptyDict).push (instObj C h.objs.size), g, d, t, os⟩) :
    codeC (model prog w) A (.call (.ref C) ⟨rest, []⟩) R ⟨h, g, d, t, os⟩ := by
  have Y' := Y
  obtain ⟨⟨oc, od, cd, sl, hC, e1, e2, e4⟩, made, base, self, top, call, typ⟩ := Y
  refine codeC_of_tree rfl ?_
  show wpC _ _ (callAny (.ref C) _) _ _
  simp only [callAny]
  refine wpC_lbind (wpAny_load hC ?_)
  show wpC _ _ (callAny.viaDunder (.ref C) _) _ _
  unfold callAny.viaDunder
  refine wpC_look call (fun _ _ e => e) ?_
  dsimp only
  rw [tc_bind]
  refine wpC_bind (wpC_pure (wpC_bind (wpC_pure ?_)))
  refine wpC_pure (a := Fin.again (.call (.builtin "type.__call__") ⟨.ref C :: rest, []⟩)) (And.intro rfl ?_)
  refine codeC_of_tree rfl ?_
  show wpC _ A.in1 (do checkBuiltinCall "type.__call__" ⟨.ref C :: rest, []⟩; again (.builtin "type.__call__" ⟨.ref C :: rest, []⟩)) _ _
  refine wpC_lbind (check_slot tc_kind tc_split typ (tc_args _ _ _) (wpC_pure (And.intro (Code.quiet_builtin _ (by decide +kernel)) (codeC_builtin (clean_id (by decide +kernel)) entry_typeCall ?_))))
  unfold Builtin.«type.__call__»
  have hm : Looks (model prog w) h (mroOf (.ref C)) cd.mro := ((Looks.ld (part := none) hC).andThen .now).andThen .now
  dsimp only
  have hty : ¬ ((Value.ref C == Value.type "type") = true) := fun e => by cases (eq_of_beq e)
  rw [if_neg hty]
  refine wpC_look hm (fun _ _ e => e) ?_
  simp only [e4, Bool.false_eq_true, if_false]
  refine wpC_look made (fun _ _ e => e) ?_
  dsimp only
  refine wpC_bind (wpC_pure ?_)
  refine wpC_bind (wpC_holding (wpC_call (codeC.of (new_K (kw := []) Y' hi (.inl hne) ?_))))
  have k : ∀ b o, h.get? b = some o → ((h.push emptyDict).push (instObj C h.objs.size)).get? b = some o := fun b o e => Heap.get?_push_of_some _ (Heap.get?_push_of_some _ e)
  have hx : ((h.push emptyDict).push (instObj C h.objs.size)).get? (h.objs.size + 1) = some (instObj C h.objs.size) := by
    rw [← Heap.size_push h emptyDict]; exact Heap.get?_push_size _ rfl
  have t1 : Looks (model prog w) ((h.push emptyDict).push (instObj C h.objs.size)) (typeOf (.ref (h.objs.size + 1))) (.ref C) := (Looks.ld hx).andThen .now
  have s1 := self.keeps k
  have i1 := hi.keeps k
  have b1 := (hb (.ref (h.objs.size + 1))).keeps k
  show wpC _ _ _ _ _
  unfold isInstance callSpecial? specialOf
  refine wpC_bind (wpC_look t1 (fun _ _ e => e) (.of (s1 _ _ _ _ (fun _ _ e => e) ?_)))
  simp only [Bool.not_true, Bool.false_eq_true, if_false]
  refine wpC_bind (wpC_holding ?_)
  refine wpC_bind (wpC_look t1 (fun _ _ e => e) (.of (i1 _ _ _ _ (fun _ _ e => e) ?_)))
  dsimp only
  refine wpC_holding ?_
  refine wpC_look b1 (fun _ _ e => e) ?_
  dsimp only [List.cons_append, List.nil_append]
  refine wpC_bind (wpC_call (codeC_mono hq fun r s' z => ?_))
  rcases r with e | (v | _ | _ | _) <;> first | exact z.elim | skip
  obtain ⟨rfl, z⟩ := z
  refine wpC_pure ?_
  show wpC _ _ (if (Value.none != Value.none) = true then _ else _) _ _
  rw [if_neg (by decide)]
  exact wpC_pure z
end
section
variable {prog : Program} {w : World} {A : Around} {s : Shared} {K : Frag} {C fI L : Addr} {h₀ : Heap} {m : Str → Option Value} {news : List (Addr × Obj)}
/-- an object is made: its __init__ by the clean logic -/
theorem c_cls {pos : List Value} {Q : Value → Shared → Prop} (F : Fr h₀ L s.heap m) (X₀ : K.In h₀) (N : News h₀ L s.heap news) (hm : makesIn K C = true) (hi : findIn K (.ref C) "__init__" = some (some (.ref fI))) (hf : isFn K (.ref fI) = true)
    (h : ∀ x dx h', Fr h₀ L h' m → News h₀ L h' ((x, instObj C dx) :: (dx, dictOf [] 0) :: news) → (∀ p ∈ news, p.1 < dx) → dx < x →
      codeC (model prog w) (A.under (.builtin "type.__call__" ⟨.ref C :: pos, []⟩)) (.call (.ref fI) ⟨.ref x :: pos, []⟩) (fun r s' => match r with | .ok (.ret v) => v = .none ∧ Q (.ref x) s' | _ => False) { s with heap := h' }) :
    wpC (model prog w) A (call (.ref C) pos []) Q s := by
  obtain ⟨hh, g, d, t, os⟩ := s
  have X := X₀.keeps F.keep
  refine wpC_call (c_make (makes_of X hm) (looks_findIn X hi) (fun self => bind_fn X self (beq_iff_eq.mp hf)) (by rfl) ?_)
  refine codeC_mono (h (hh.objs.size + 1) hh.objs.size ((hh.push emptyDict).push (instObj C hh.objs.size)) ((F.push _).push _) ?_ (fun p hp => Heap.lt_size (N p hp).1) (Nat.lt_succ_self _)) fun r s' z => z
  intro p hp
  have L1 := F.ns.lt
  have up : ∀ q ∈ news, ((hh.push emptyDict).push (instObj C hh.objs.size)).get? q.1 = some q.2 := fun q hq => Heap.get?_push_of_some _ (Heap.get?_push_of_some _ (N q hq).1)
  have no : ∀ a, hh.objs.size ≤ a → h₀.get? a = none := fun a ha => by
    cases e : h₀.get? a with
    | none => rfl
    | some o => exact absurd (Heap.lt_size (F.keep a o e)) (Nat.not_lt.mpr ha)
  rcases List.mem_cons.mp hp with rfl | hp
  · refine ⟨?_, ?_, no _ (Nat.le_succ _)⟩
    · show ((hh.push emptyDict).push (instObj C hh.objs.size)).get? (hh.objs.size + 1) = _
      rw [← Heap.size_push hh emptyDict]; exact Heap.get?_push_size _ rfl
    · exact fun e => absurd L1 (by rw [← e]; exact Nat.not_lt.mpr (Nat.le_succ _))
  · rcases List.mem_cons.mp hp with rfl | hp
    · exact ⟨Heap.get?_push_of_some _ (Heap.get?_push_size _ rfl), fun e => absurd L1 (by rw [← e]; exact Nat.lt_irrefl _), no _ (Nat.le_refl _)⟩
    · exact ⟨up p hp, (N p hp).2⟩
end
end Mine

open PySem PySem.W PyProof.Rows PySem.Calls PySem.Spec
set_option Elab.async false
set_option linter.unusedVariables false
set_option pp.maxSteps 2000
namespace Mine
set_option maxRecDepth 100000
set_option maxHeartbeats 4000000
section
variable {prog : Program} {w : World} {A : Around} {s : Shared} {env : Env} {g : Heap} {target : Expr} {x : Str} {body : List Stmt} {Q : Flow → Shared → Prop}
def FlowBack (Q : Flow → Shared → Prop) (r : Result) (s' : Shared) : Prop := match r with
  | .ok f => Q f s'
  | .error _ => False
theorem c_For {iter : Expr} {orelse : List Stmt} {pos : Pos}
    (h : wpAny (model prog w) A (eval iter env) (fun xv s₁ => wpAny (model prog w) A (pyIter xv) (fun it s₂ => codeC (model prog w) A (.forLoop target it body orelse env) (FlowBack Q) s₂) NoX s₁) NoX s)
    (hs : ∀ x, foldedSetIterable iter env x = pure x := by intro _; rfl) : wpC (model prog w) A (exec (.For target iter body orelse pos) env) Q s := by
  rw [exec_For]
  refine wpC_lbind (wpAny_standAt (wpC_lbind (wpAny_mono h (fun xv s₁ h₁ => wpC_lbind (wpAny_of_eq (hs xv) (wpC_lbind (wpAny_standAt (wpC_lbind (wpAny_holding (wpAny_mono h₁ (fun it s₂ h₂ => ?_) fun _ _ e => e))))))) fun _ _ e => e)))
  unfold runOwn
  exact wpC_onRaise (wpC_run (codeC_mono h₂ fun r s' z => by cases r <;> exact z))
theorem codeC_forLoop {R : Result → Shared → Prop} {it : Value} (I : Nat → Shared → Prop)
    (turn : ∀ n s, I n s → wpAny (model prog w) A (pyNext it) (fun r s₁ => match r with
      | none => R (.ok .next) s₁
      | some v => wpAny (model prog w) A (letOwnedTupleGo target it v) (fun _ s₁' => wpAny (model prog w) A (assign target env v) (fun _ s₂ => wpC (model prog w) A (execs body env) (fun f s₃ => match f with
            | .ret v => R (.ok (.ret v)) s₃
            | .brk => R (.ok .next) s₃
            | _ => ∃ m, m < n ∧ I m s₃) s₂) NoX s₁') NoX s₁) NoX s)
    (n : Nat) (h : I n s) : codeC (model prog w) A (.forLoop target it body [] env) R s := by
  induction n using Nat.strongRecOn generalizing s with
  | ind n ih =>
    refine codeC_of_tree rfl ?_
    show wpC _ A ((forTurn target it body [] env).onRaise (fun x => do noteFrame x env; theTreesLotGoes x)) _ s
    refine wpC_onRaise ?_
    simp only [forTurn]
    refine wpC_lbind (wpAny_standAt (wpC_lbind (wpAny_onRaise (wpAny_mono (turn n s h) (fun r s₁ h₁ => ?_) fun _ _ e => e.elim))))
    cases r with
    | none => exact wpC_pure ⟨rfl, codeC.of (codeAny_block (wpAny_execs_nil h₁))⟩
    | some v =>
      refine wpC_lbind (wpAny_mono h₁ (fun _ s₁' h₁' => ?_) fun _ _ e => e)
      refine wpC_lbind (wpAny_mono h₁' (fun _ s₂ h₂ => wpC_bind (wpC_mono h₂ fun f s₃ h₃ => ?_)) fun _ _ e => e)
      cases f with
      | next => obtain ⟨m, hm, hI⟩ := h₃; exact wpC_pure ⟨rfl, ih m hm hI⟩
      | cont => obtain ⟨m, hm, hI⟩ := h₃; exact wpC_pure ⟨rfl, ih m hm hI⟩
      | brk => exact wpC_pure h₃
      | ret v => exact wpC_pure h₃
inductive CLInv (g : Heap) (L : Addr) (wr : List Addr) (n : Nat) (St : Nat → Heap → Prop) (J : Nat → (Str → Option Value) → List (Addr × Obj) → Prop) (s : Shared) (k : Nat) (s' : Shared) : Prop
  | mk (h' : Heap) (tk : Nat) (m' : Str → Option Value) (news' : List (Addr × Obj)) (i : Nat) (e : s' = { s with heap := h', toks := tk }) (hs : St i h') (F : Fr g L h' m') (N : News g L h' news') (o : ∀ p ∈ news', p.1 ∉ wr) (j : J i m' news') (hi : i ≤ n) (hk : k = n + 1 - i) : CLInv g L wr n St J s k s'
theorem c_loop {R : Result → Shared → Prop} {I : Addr} {fp wr : List Addr} {n : Nat} {P Md : Nat → Value → Heap → Prop} {St : Nat → Heap → Prop} {m : Str → Option Value} {news : List (Addr × Obj)} (W : KTurns prog w A target I fp wr n P Md St)
    (hLf : env.locals ∉ fp) (hwr : ∀ b ∈ wr, g.get? b = none) (hnw : ∀ p ∈ news, p.1 ∉ wr) (hst : St 0 s.heap) (F : Fr g env.locals s.heap m) (N : News g env.locals s.heap news)
    (J : Nat → (Str → Option Value) → List (Addr × Obj) → Prop) (h0 : J 0 m news)
    (step : ∀ i v m₁ news₁ h₁ tk₁ own, i < n → P i v h₁ → J i m₁ news₁ → (∀ p ∈ news₁, p.1 ∉ wr) → (∀ p ∈ own, p.1 ∈ fp) → (∀ b ∈ fp, g.get? b = none → ∀ o, h₁.get? b = some o → (b, o) ∈ own) → St (i + 1) h₁ →
      Fr g env.locals h₁ m₁ → News g env.locals h₁ (own ++ news₁) →
      wpAny (model prog w) A (assign target env v) (fun _ s₂ => wpC (model prog w) A (execs body env)
        (LoopStepV g env.locals wr own (J (i + 1)) { s with heap := h₁, toks := tk₁ } (fun v s' => R (.ok (.ret v)) s') fun s' => R (.ok .next) s') s₂) NoX { s with heap := h₁, toks := tk₁ })
    (hR : ∀ h' tk m' news', Fr g env.locals h' m' → News g env.locals h' news' → J n m' news' → R (.ok .next) { s with heap := h', toks := tk }) :
    codeC (model prog w) A (.forLoop target (.ref I) body [] env) R s := by
  have hLw : env.locals ∉ wr := fun h => hLf (W.sub _ h)
  have old : ∀ b o, g.get? b = some o → b ∉ wr := fun b o e hb => by rw [hwr b hb] at e; cases e
  refine codeC_forLoop (CLInv g env.locals wr n St J s) ?_ (n + 1)
    ⟨s.heap, s.toks, m, news, 0, rfl, hst, F, N, hnw, h0, Nat.zero_le _, rfl⟩
  rintro k s' ⟨h', tk, m', news', i, rfl, hst', F', N', hnw', hJ, hi, rfl⟩
  have next : ∀ h₁ : Heap, (∀ b o, b ∉ wr → h'.get? b = some o → h₁.get? b = some o) → Fr g env.locals h₁ m' ∧ News g env.locals h₁ news' := fun h₁ hk₁ =>
    ⟨⟨F'.ns.at' fun o e => hk₁ _ o hLw e, fun b o e => hk₁ b o (old b o e) (F'.keep b o e), F'.above⟩, fun p hp => ⟨hk₁ _ _ (hnw' p hp) (N' p hp).1, (N' p hp).2⟩⟩
  by_cases hlt : i < n
  · refine W.item i _ _ _ hlt hst' fun v h₁ tk₁ hMd hk₁ => W.go i v _ _ _ hMd fun h₂ hP hst₂ hk₂ => ?_
    obtain ⟨F₂, N₂⟩ := next h₂ fun b o hb e => hk₂ b o hb (hk₁ b o hb e)
    have Nown : News g env.locals h₂ (PyProof.Rows.ownOf g fp h₂) := news_ownOf hLf
    refine wpAny_mono (step i v m' news' h₂ tk₁ (PyProof.Rows.ownOf g fp h₂) hlt hP hJ hnw' ownOf_sub (fun b hb hn o e => mem_ownOf hb hn e) hst₂ F₂ (Nown.append N₂)) (fun _ s₂ h₂' => wpC_mono h₂' fun f s₃ h₃ => ?_) fun _ _ e => e
    have fin : LoopStepU g env.locals wr (PyProof.Rows.ownOf g fp h₂) (J (i + 1)) { s with heap := h₂, toks := tk₁ } .next s₃ → ∃ m, m < n + 1 - i ∧ CLInv g env.locals wr n St J s m s₃ := by
      rintro ⟨_, h₃', tk₃, m₂, news₂, rfl, F₃, N₃, ha₃, hJ₃⟩
      refine ⟨n + 1 - (i + 1), dec_turn hlt, h₃', tk₃, m₂, news₂, i + 1, rfl, W.frame _ _ _ hst₂ fun b hb o e => ?_, F₃, N₃.right, ha₃, hJ₃, hlt, rfl⟩
      cases hn : g.get? b with
      | some o₀ =>
        have q := F₂.keep b o₀ hn
        rw [e] at q
        exact Option.some.inj q ▸ F₃.keep b o₀ hn
      | none => exact (N₃ _ (List.mem_append_left _ (mem_ownOf hb hn e))).1
    cases f with
    | ret v => exact h₃
    | brk => exact h₃
    | cont => exact fin h₃
    | next => exact fin h₃
  · have hin : i = n := by (first | lia | omega)
    subst hin
    refine W.done _ _ _ hst' fun h₁ tk₁ hk₁ => ?_
    obtain ⟨F₁, N₁⟩ := next h₁ hk₁
    exact hR h₁ tk₁ m' news' F₁ N₁ hJ
end
end Mine

open PySem PySem.W PyProof.Rows PySem.Calls PySem.Spec
set_option Elab.async false
set_option linter.unusedVariables false
set_option pp.maxSteps 2000
namespace Mine
set_option maxRecDepth 100000
set_option maxHeartbeats 4000000
section
variable {prog : Program} {w : World} {A : Around} {s : Shared} {env : Env} {g : Heap} {target : Expr} {x : Str} {body : List Stmt} {Q : Flow → Shared → Prop}
theorem go_Name {px : Pos} {I : Addr} {v : Value} {Q' : Unit → Shared → Prop} {E' : Value → Shared → Prop} {s' : Shared} (h : Q' () s') : wpAny (model prog w) A (letOwnedTupleGo (.Name x px) (.ref I) v) Q' E' s' := wpAny_pure (a := ()) h
theorem c_range {r : Addr} {px : Pos} {a₀ b₀ : Int} {t₀ u₀ v₀ : Tok} {n : Nat} {m₀ : Str → Option Value} {news : List (Addr × Obj)} (J : Nat → (Str → Option Value) → List (Addr × Obj) → Prop)
    (hh : A.handled = none) (hx : env.kindOf x = some .local) (hp : (env.scope.kind == .class || (env.scope.kind == .module && env.locals != env.globals)) = false)
    (hr : IsRange s.heap r a₀ b₀ 1 t₀ u₀ v₀) (hsmall : Builtin.Range.small a₀ b₀ 1 = true) (hn : Builtin.Range.rangeSize a₀ b₀ 1 = (n : Int)) (F : Fr g env.locals s.heap m₀) (N : News g env.locals s.heap news) (h0 : J 0 m₀ news)
    (turn : ∀ I i t m₁ news₁ h tk o, (∀ p ∈ news, p.1 < I) → i < n → J i m₁ news₁ → (∀ p ∈ news₁, p.1 ≠ I) → Fr g env.locals h (fun y => if y = x then some (.int (a₀ + (i : Nat)) t) else m₁ y) → News g env.locals h ((I, o) :: news₁) →
      wpC (model prog w) A (execs body env) (TEnd g env.locals I [(I, o)] (J (i + 1)) { s with heap := h, toks := tk } Q) { s with heap := h, toks := tk })
    (done : ∀ m' news' h tk, J n m' news' → Fr g env.locals h m' → News g env.locals h news' → Q .next { s with heap := h, toks := tk }) :
    wpAny (model prog w) A (pyIter (.ref r)) (fun it s₂ => codeC (model prog w) A (.forLoop (.Name x px) it body [] env) (FlowBack Q) s₂) NoX s := by
  refine wpAny_pyIter_range hr hsmall ?_
  have W := KTurns.ofWalks (target := .Name x px) ((Walks.range (prog := prog) (w := w) hh s.heap.objs.size a₀ 1 n).bound) (fun i v s' Q' E' st hQ' => go_Name hQ')
  refine c_loop (s := { s with heap := _ }) W ?_ ?_ ?_ ?_ (F.push _) (fun p hp => ⟨Heap.get?_push_of_some _ (N p hp).1, (N p hp).2⟩) J h0 ?_ ?_
  · intro hm; exact absurd F.ns.lt ((List.mem_singleton.mp hm) ▸ Nat.lt_irrefl _)
  · intro b hb; rw [List.mem_singleton.mp hb]; exact next_is_new F
  · intro p hp hI; exact absurd (Heap.lt_size (N p hp).1) ((List.mem_singleton.mp hI) ▸ Nat.lt_irrefl _)
  · show IsRangeIter _ _ _ _ _; rw [hn]; simpa using Heap.get?_push_size _ rfl
  · rintro i v m₁ news₁ hh' tk' own hin ⟨_, t, rfl⟩ hJ hoff hown hall hst F₁ N₁
    have hob : ∃ o, hh'.get? s.heap.objs.size = some o := ⟨_, hst⟩
    obtain ⟨o, ho⟩ := hob
    have hio : (s.heap.objs.size, o) ∈ own := hall _ (List.mem_singleton.mpr rfl) (next_is_new F) _ ho
    have hone := own_one hown (fun b hb => .inl (List.mem_singleton.mp hb)) ho N₁
    refine wpAny_assign_Name (wpAny_storeName_local hx F₁.ns (fun h₂ hn₂ hs₂ => ?_) hp)
    have F₂ := F₁.set hn₂ hs₂
    have N₂ := N₁.set hs₂
    have e1 : a₀ + (i : Int) * 1 = a₀ + (i : Nat) := by (first | lia | omega)
    rw [e1] at F₂
    refine wpC_mono (turn s.heap.objs.size i t m₁ news₁ h₂ _ o (fun p hp => Heap.lt_size (N p hp).1) hin hJ (fun p hp e => hoff p hp (by rw [e]; exact List.mem_singleton.mpr rfl)) F₂ (news_one hio N₂)) (fun f s₂ p => ?_)
    have fin : (∃ h' tk m' news', s₂ = { ({ s with heap := h₂, toks := tk' + 1 } : Shared) with heap := h', toks := tk } ∧ Fr g env.locals h' m' ∧ News g env.locals h' ([(s.heap.objs.size, o)] ++ news') ∧ (∀ p ∈ news', p.1 ≠ s.heap.objs.size) ∧ J (i + 1) m' news') → LoopStepU g env.locals [s.heap.objs.size] own (J (i + 1)) { s with heap := hh', toks := tk' } .next s₂ := by
      rintro ⟨h', tk, m', news', e, F', N', hoff', hm⟩
      refine ⟨rfl, h', tk, m', news', e, F', fun p hp => ?_, fun p hp hq => hoff' p hp (List.mem_singleton.mp hq), hm⟩
      rcases List.mem_append.mp hp with hp | hp
      · exact N' p (List.mem_append_left _ (by rw [hone p hp]; exact List.mem_singleton.mpr rfl))
      · exact N' p (List.mem_append_right _ hp)
    cases f with
    | ret v => exact .ret p
    | brk => exact .brk p
    | next => exact .next (fin p)
    | cont => exact .cont (fin p)
  · rintro h' tk m' news' F' N' hJ
    exact done m' news' h' tk hJ F' N'
/-- a loop over a list of the ledger -/
theorem c_listN {l : Addr} {vs : List Value} {nl : Nat} {m₀ : Str → Option Value} {news : List (Addr × Obj)} (J : Nat → (Str → Option Value) → List (Addr × Obj) → Prop)
    (hh : A.handled = none) (F : Fr g env.locals s.heap m₀) (N : News g env.locals s.heap ((l, listOf vs.toArray nl) :: news)) (h0 : J 0 m₀ news)
    (turn : ∀ I i v m₁ news₁ h tk o, (∀ p ∈ (l, listOf vs.toArray nl) :: news, p.1 < I) → vs[i]? = some v → J i m₁ news₁ → (∀ p ∈ news₁, p.1 ≠ I) → Fr g env.locals h m₁ → News g env.locals h ((I, o) :: (l, listOf vs.toArray nl) :: news₁) →
      wpAny (model prog w) A (assign target env v) (fun _ s₃ => wpC (model prog w) A (execs body env) (TEnd g env.locals I [(I, o), (l, listOf vs.toArray nl)] (J (i + 1)) { s with heap := h, toks := tk } Q) s₃) NoX { s with heap := h, toks := tk })
    (done : ∀ m' news' h tk, J vs.length m' news' → Fr g env.locals h m' → News g env.locals h news' → Q .next { s with heap := h, toks := tk }) :
    wpAny (model prog w) A (pyIter (.ref l)) (fun it s₂ => codeC (model prog w) A (.forLoop target it body [] env) (FlowBack Q) s₂) NoX s := by
  have hlN := N _ (.head _)
  have hne : l ≠ s.heap.objs.size := Nat.ne_of_lt (Heap.lt_size hlN.1)
  have N' : News g env.locals s.heap news := fun p hp => N p (.tail _ hp)
  refine wpAny_pyIter_list (ListObj.of.at hlN.1) ?_
  have W := KTurns.ofWalks (target := target) (walksP (prog := prog) (w := w) hh s.heap.objs.size l hne (ListObj.of (vs := vs) (n := nl))) (fun i v s' Q' E' st hQ' => letGo_listiter st.1 hQ')
  refine c_loop (s := { s with heap := _ }) W ?_ ?_ ?_ ⟨⟨_, Heap.get?_push_size _ rfl, rfl, rfl⟩, Heap.get?_push_of_some _ hlN.1⟩ (F.push _) (fun p hp => ⟨Heap.get?_push_of_some _ (N' p hp).1, (N' p hp).2⟩) J h0 ?_ ?_
  · intro hm
    rcases List.mem_cons.mp hm with e | hm
    · exact absurd F.ns.lt (e ▸ Nat.lt_irrefl _)
    · exact hlN.2.1 (List.mem_singleton.mp hm).symm
  · intro b hb; rw [List.mem_singleton.mp hb]; exact next_is_new F
  · intro p hp hI; exact absurd (Heap.lt_size (N' p hp).1) ((List.mem_singleton.mp hI) ▸ Nat.lt_irrefl _)
  · rintro i v m₁ news₁ hh' tk' own hin hP hJ hoff hown hall hst F₁ N₁
    obtain ⟨o, ho, _⟩ := hst.1
    have hio : (s.heap.objs.size, o) ∈ own := hall _ (.head _) (next_is_new F) _ ho
    have hil : (l, listOf vs.toArray nl) ∈ own := hall _ (.tail _ (.head _)) hlN.2.2 _ hst.2
    refine wpAny_mono (turn s.heap.objs.size i v m₁ news₁ hh' tk' o (fun p hp => Heap.lt_size (N p hp).1) hP hJ (fun p hp e => hoff p hp (by rw [e]; exact List.mem_singleton.mpr rfl)) F₁ (fun p hp => ?_)) (fun _ s₃ h₃ => wpC_mono h₃ fun f s₂ p => turn_fin (news₁ := news₁) (own_two hown ho hst.2 N₁) p) fun _ _ e => e
    rcases List.mem_cons.mp hp with rfl | hp
    · exact N₁ _ (List.mem_append_left _ hio)
    · rcases List.mem_cons.mp hp with rfl | hp
      · exact N₁ _ (List.mem_append_left _ hil)
      · exact N₁ _ (List.mem_append_right _ hp)
  · rintro h' tk m' news' F' N'' hJ
    exact done m' news' h' tk hJ F' N''
/-- a while by a measure -/
theorem c_while {test : Expr} {orelse : List Stmt} {pos : Pos} {m₀ : Str → Option Value} {news : List (Addr × Obj)} (J : Nat → (Str → Option Value) → List (Addr × Obj) → Prop)
    (turn : ∀ n m₁ news₁ h tk, J n m₁ news₁ → Fr g env.locals h m₁ → News g env.locals h news₁ →
      wpAny (model prog w) A (isTrue test env (eval test env)) (fun b s₂ => WhlIf b (wpC (model prog w) A (execs body env) (TEnd g env.locals env.locals [] (fun m' news' => ∃ k, k < n ∧ J k m' news') { s with heap := h, toks := tk } Q) s₂) (wpC (model prog w) A (execs orelse env) Q s₂)) NoX { s with heap := h, toks := tk })
    {n : Nat} (h0 : J n m₀ news) (F : Fr g env.locals s.heap m₀) (N : News g env.locals s.heap news) : wpC (model prog w) A (exec (.While test body orelse pos) env) Q s := by
  rw [exec_While]
  refine wpC_lbind (wpAny_standAt ?_)
  unfold runOwn
  refine wpC_onRaise (wpC_run ?_)
  have main : ∀ n, ∀ m₁ news₁ h tk, J n m₁ news₁ → Fr g env.locals h m₁ → News g env.locals h news₁ → codeC (model prog w) A (.whileLoop test body orelse env) (FlowBack Q) { s with heap := h, toks := tk } := by
    intro n
    induction n using Nat.strongRecOn with
    | ind n ih =>
      intro m₁ news₁ h tk hJ F₁ N₁
      refine codeC_of_tree rfl ?_
      show wpC _ A ((whileTurn test body orelse env).onRaise (fun x => do noteFrame x env; theTreesLotGoes x)) _ _
      refine wpC_onRaise ?_
      simp only [whileTurn]
      refine wpC_lbind (wpAny_mono (turn n m₁ news₁ h tk hJ F₁ N₁) (fun b s₂ hb => ?_) fun _ _ e => e)
      unfold WhlIf at hb
      cases b with
      | false =>
        simp only [Bool.false_eq_true, if_false] at hb ⊢
        exact wpC_bind (wpC_mono hb fun f s₃ h₃ => wpC_pure h₃)
      | true =>
        simp only [if_true] at hb ⊢
        refine wpC_bind (wpC_mono hb fun f s₃ hf => ?_)
        cases f with
        | ret v => exact wpC_pure hf
        | brk => exact wpC_pure hf
        | next =>
          obtain ⟨h', tk', m', news', rfl, F', N', _, k, hk, hJ'⟩ := hf
          exact wpC_pure ⟨rfl, ih k hk m' news' h' tk' hJ' F' N'⟩
        | cont =>
          obtain ⟨h', tk', m', news', rfl, F', N', _, k, hk, hJ'⟩ := hf
          exact wpC_pure ⟨rfl, ih k hk m' news' h' tk' hJ' F' N'⟩
  exact codeC_mono (main n m₀ news s.heap s.toks h0 F N) fun r s' z => by cases r <;> exact z
end
end Mine

open PySem PySem.W PyProof.Rows PySem.Calls PySem.Spec
set_option Elab.async false
set_option linter.unusedVariables false
set_option pp.maxSteps 2000
namespace Mine
set_option maxRecDepth 100000
set_option maxHeartbeats 4000000
theorem thread_clean {prog : Program} {w : World} {t : Sem Fin} {s : Shared} {R : Result → Shared → Prop} (hreg : s.asleep)
    (h : wpC (model prog w) callerA t (fun fin s' => ∃ f, fin = .done f ∧ R (.ok f) s' ∧ leftWithCleanup s'.gens = false) s) :
    ∃ n r s' s'', runN (denote table) prog w n s ⟨t, .builtin "claim.caller" {}, default, []⟩ = .halted (outcomeOf r) s' ∧
      schedN (denote table) prog w n (.single s ⟨t, .builtin "claim.caller" {}, default, []⟩) = .halted (outcomeOf r) s' ∧ s'.forget = s''.forget ∧ R r s'' := by
  have h0 := h ⟨.builtin "claim.caller" {}, none, none, [], none⟩ default caller_in ⟨clean_id (by decide +kernel), fun _ hx => (nomatch hx)⟩
  obtain ⟨n, r, s₁, s₂, hs, hn, hfo, hR⟩ := wp_halts_full (M := model prog w) (R := R) hreg (Sem.wp_mono _ _ t (post' := Sem.finPost (model prog w) ⟨.builtin "claim.caller" {}, none, none, [], none⟩ fun r s' => R r s' ∧ leftWithCleanup s'.gens = false) (fun fin p' s' hf => by obtain ⟨f, rfl, hf⟩ := hf; exact hf) (fun _ _ _ e => e.elim) default s h0)
  exact ⟨n, r, s₂, s₁, hn, hs, hfo, hR⟩
theorem callFrom_clean {c : ClaimW} {tree : List Value → Sem Fin} {w : World} {s : Shared} {free : Addr → Prop} {gens : Prop} {kept : Heap → Prop} (hz : s.asleep) (hgens : s.gens = #[])
    (hspec : ∀ args, c.pre args = true → WData.layableAll args = true → ∀ ord : List DictEntry → List DictEntry, (∀ l, (ord l).Perm l) →
      ∃ vs s₁, layAllW c.records (classAt s.heap) w.params ord args s = some (vs, s₁) ∧
        wpC (model c.prog w) callerA (tree vs) (fun fin s' => ∃ f, fin = .done f ∧ (c.Ends s args vs s₁ (.ok f) s' ∧ s'.os = s.os ∧ kept s'.heap) ∧ leftWithCleanup s'.gens = false) s₁) :
    c.CallFrom (fun vs => ⟨tree vs, .builtin "claim.caller" {}, default, []⟩) w free gens kept s := by
  intro args hpre hlay ord hord
  refine ex2 (hspec args hpre hlay ord hord) ?_
  intro vs s₁ hx
  have hlaid := hx.1
  have hcode := hx.2
  clear hx
  have hal := layAllW_rest _ _ _ hlaid
  refine ex4 (thread_clean (R := fun r s' => c.Ends s args vs s₁ r s' ∧ s'.os = s.os ∧ kept s'.heap) (Shared.asleep_of_life hal.2.2.2 hz) hcode) ?_
  intro k r s' s'' hx
  refine conj6 hx ?_
  clear hx
  intro hrun hsched hfo hcase hos hkp
  have hx := Shared.forget_eq hfo
  have eh := hx.1
  have eo := hx.2.2.2.1
  clear hx
  have hcase := hcase.congr eh
  rw [← eh] at hkp
  rw [← eo] at hos
  refine ⟨vs, s₁, hlaid, k, _, s', hsched, ?_, (fun _ i x hx => by rw [hgens] at hx; simp at hx), hkp, ?_, Shared.rest_eq hos⟩
  · rcases hcase with ⟨v, rfl, d1, d2, d3, d4, d5⟩ | ⟨e, ob, cls, rfl, d1, d2, d3, d4, d5⟩
    · exact .inl ⟨v, rfl, d1, d2, d3, fun b o y _ => d4 b o y, d5⟩
    · exact .inr ⟨e, ob, cls, rfl, d1, d2, d3, d4, fun b o y _ => d5 b o y⟩
  · rw [show s'.heap.life = s.heap.life from (runN_life _ _ _ hrun).trans hal.2.2.2]
abbrev WalkC (q : Program) (loose : List Str) (XP : (Str → Option Value) → Heap → Prop) (YP : World → Heap → Prop) (r : RowW) (d : DefRec) (kwd : List (Str × Expr)) : Prop :=
  ∀ (w : World) (s₀ s₁ : Shared) (mg mb : Str → Option Value), Ground q loose r.records XP w s₀ mg mb s₁.heap → YP w s₁.heap → ∀ (a : Addr) (o : Obj) (pm cd doc dV kV : Value), s₁.heap.get? a = some o →
    o.data = .func { docDef d.name d.params d.body d.scope pm cd doc with defaults := dV, kwdefaults := kV } → s₁.heap.CodeRec cd d.name → Dflts mg s₁.heap d.params kwd dV kV → mg d.name = some (.ref a) → s₁.gens = #[] →
    ∀ (args : List WData) (vals : List Value) (as : List Addr), r.claim.pre args = true → WData.layableAll args = true → ReadsAllW r.records (classAt s₀.heap) s₁.heap vals args as → WellAll w.params s₁.heap vals args → (∀ a ∈ as, (a == sysModules) = false) →
      wpC (model r.prog w) callerA (call (.ref a) vals) (fun v s' => GoodWG r.claim (classAt s₀.heap) (ExcName.means s₀.heap) args s₁ (.ok (.ret v)) s') s₁
theorem holds_clean {r : OpenRow} {q : Program} {loose : List Str} {Xt : Shared → Bool} {XP : (Str → Option Value) → Heap → Prop} {α : Type} {Yf : Shared → α} {Ya : World → α} {YP : World → Heap → Prop} {d : DefRec} {kwd : List (Str × Expr)} {N : Nat}
    (left : LeftO r.prog q loose Xt Yf Ya N) (hY : ∀ w s, Yf s = Ya w → YP w s.heap) (hYk : ∀ w h h', YP w h → (∀ b o, h.get? b = some o → h'.get? b = some o) → YP w h')
    (hX : ∀ s, Xt s = true → XP (s.heap.nsMap mainGlobals) s.heap) (hXk : ∀ mg h h', XP mg h → (∀ b o, h.get? b = some o → h'.get? b = some o) → XP mg h')
    (hdef : defOf q r.name = some (d, kwd)) (hp : r.prog.theDef r.name = some (d.params, d.body, d.scope)) (hk : kwWritten? d.params.kwonlyargs d.params.kw_defaults = some kwd) (hRf : ∀ s, Xt s = true → RecFacts r.records s.heap) (hwr : (!r.writes || r.records.isEmpty) = true)
    (k1 : r.wellSaid = true) (ok : (chainsOk q && opensWell r.prog && (frees r.toRowW && r.within.isEmpty)) = true) (hb : r.prog.bare) (hw : r.toRowW.promised)
    (walk : WalkC q loose XP YP r.toRowW d kwd) : r.Holds := by
  refine ⟨k1, hw, ?_⟩
  obtain ⟨ok, k5⟩ := Bool.and_eq_true_iff.mp ok
  obtain ⟨hch, o1⟩ := Bool.and_eq_true_iff.mp ok
  obtain ⟨k5, k6⟩ := Bool.and_eq_true_iff.mp k5
  obtain ⟨hsame, hu, ha, hap, hm⟩ := frees_parts k5
  refine ⟨⟨hb, o1, by show r.makers.map _ = []; rw [hm]; rfl⟩, hw.witness, fun w => ⟨(left.behind hX hch w).1, fun s' hs' => ?_⟩⟩
  refine exE ((left.behind (XP := fun mg h => XP mg h ∧ RecFacts r.records h) (fun s hs => ⟨hX s hs, hRf s hs⟩) hch w).2 s' hs') ?_
  intro s₀ hx
  have hf := hx.1
  have hg0 := hx.2.1
  refine exE hx.2.2 ?_
  clear hx
  intro s hx
  have hT := hx.1
  have hz := hx.2.1
  have hgens := hx.2.2.1
  have hg := hx.2.2.2.1
  have G00 := hx.2.2.2.2.1
  have y := hx.2.2.2.2.2
  clear hx
  have G0 : Ground q loose [] XP w s (s.heap.nsMap mainGlobals) (s.heap.nsMap builtinsNs) s.heap := ⟨G00.T, G00.B, G00.D, G00.TE, G00.TD, G00.W, G00.X.1, G00.cls, G00.has, G00.apart, G00.once, G00.K⟩
  have RF := G00.X.2
  refine ⟨s₀, hf, hg0, s, hT, (fun n hn => ?_), RF.1, RF.2.1, ?_⟩
  · obtain rfl : n = r.name := by split at hn <;> simp_all
    exact pinned_of_view hg G0 hdef hp hk
  have hgens : s.gens = #[] := Array.eq_empty_of_size_eq_zero (beq_iff_eq.mp hgens)
  have G : Ground q loose r.records XP w s _ _ s.heap := RF.ground G0
  refine callFrom_clean (c := r.claim) (tree := fun vs => do match ← nsGet mainNs r.name with
      | some f => do ret (← PySem.call f vs)
      | none => unsupported "claim.caller:no-such-global") hz hgens fun args hpre hlay ord hord => ?_
  obtain ⟨⟨vs, s₁⟩, hlaid⟩ := Option.isSome_iff_exists.mp (layAllW_isSome (P := w.params) (ord := ord) G.has args r.args s (pre_splitW hpre).1)
  have keeps := layAllW_keeps _ _ _ hlaid
  have hal := layAllW_rest _ _ _ hlaid
  obtain ⟨as, hrd, hin, hold⟩ := reads_layAllW hord _ _ _ hlaid hlay s₁.heap (fun _ _ e => e)
  have L : Laid r.records w s s₁ args vs as := ⟨⟨ord, hord, hlaid⟩, hrd, hin, hold, keeps, hal.1.trans hgens, hal.2.2.1⟩
  have G₁ := G.keeps hXk keeps
  obtain ⟨a, o, pm, cd, doc, dV, kV, h1, h2, h3, h4, h5⟩ := G₁.fn hdef
  have hi := ident_freeW hu ha hap
  have hwi : r.claim.within = [] := List.isEmpty_iff.mp k6
  refine ⟨vs, s₁, hlaid, wpC_lbind (wpAny_nsGet G₁.T.g ?_)⟩
  rw [h1]
  refine wpC_bind (wpC_mono (walk w s s₁ _ _ G₁ (hYk _ _ _ (hY w s y) keeps) a o pm cd doc dV kV h2 h3 h4 h5 (defOf_name hdef ▸ h1) L.gens args vs as hpre hlay L.reads L.well (L.low G.low)) fun v s' gd => wpC_pure ⟨_, rfl, ?_⟩)
  have z := gd.laid (c := r.claim) hsame hwi hi L
  exact ⟨⟨z.1, z.2.1, fun q => ⟨namesKept_of hT hg r.keeps keeps gd.2.1.old, noTable hwr q⟩⟩, leftWithCleanup_false_of_bare z.2.2⟩
end Mine

open PySem PySem.W PyProof.Rows PySem.Calls PySem.Spec
set_option Elab.async false
set_option linter.unusedVariables false
set_option linter.unusedSimpArgs false
set_option pp.maxSteps 3000
namespace Mine
set_option maxRecDepth 100000
set_option maxHeartbeats 4000000
set_option rowWalk.seconds 0
example : (PySem.Challenge.rw_pf0245_01 = PySem.Challenge.rw_pf0245_01) ∧ (kk = kk) := by
  k_fill
  exact ⟨rfl, rfl⟩
theorem and7 (a : Int) : Builtin.bitAnd a 7 = a % 8 := kbt_mask a 3
theorem and1 (a : Int) : Builtin.bitAnd a 1 = a % 2 := kbt_mask a 1
theorem News.two {h₀ h : Heap} {L a : Addr} {o : Obj} {news : List (Addr × Obj)} (N : News h₀ L h news) (hm : (a, o) ∈ news) : h.get? a = some o ∧ h₀.get? a = none := ⟨(N _ hm).1, (N _ hm).2.2⟩
theorem upd0 {h₀ h h' : Heap} {L : Addr} {m : Str → Option Value} {news : List (Addr × Obj)} (F : Fr h₀ L h m) (N : News h₀ L h news) (k : Keep [] h h') : Fr h₀ L h' m ∧ News h₀ L h' news :=
  ⟨keptF F k fun _ hx => (nomatch hx), fun p hp => ⟨k _ _ (fun q => nomatch q) (N p hp).1, (N p hp).2⟩⟩
/-- two places are unlike: hidden from (first | lia | omega), that would try them case by case -/
def Nq (a b : Nat) : Prop := a ≠ b
theorem Nq.ne {a b : Nat} (h : Nq a b) : @Ne Nat a b := h
theorem Nq.symm {a b : Nat} (h : Nq a b) : Nq b a := Ne.symm h
theorem Nq.of {a b : Nat} (h : @Ne Nat a b) : Nq a b := h
theorem ne_cls {h : Heap} {a b : Addr} {oa ob : Obj} (ha : h.get? a = some oa) (hb : h.get? b = some ob) (hc : decide (oa.cls = ob.cls) = false) : Nq a b := fun e => by
  subst e; rw [ha] at hb; cases hb; exact of_decide_eq_false hc rfl
theorem p2_le {a b : Nat} (h : a ≤ b) : (2 : Int) ^ a ≤ 2 ^ b := by
  rw [← kbt_cast, ← kbt_cast]; exact Int.ofNat_le.mpr (Nat.pow_le_pow_right (by decide) h)
theorem sub_as {prog : Program} {w : World} {A : Around} {E : Value → Shared → Prop} {s : Shared} {a b c : Int} {t u : Tok} {Q : Value → Shared → Prop} (e : a - b = c) (h : Q (.int c s.toks) { s with toks := s.toks + 1 }) : wpAny (model prog w) A (binaryOp .Sub (.int a t) (.int b u)) Q E s := sub_int (by rw [e]; exact h)
theorem add_as {prog : Program} {w : World} {A : Around} {E : Value → Shared → Prop} {s : Shared} {a b c : Int} {t u : Tok} {Q : Value → Shared → Prop} (e : a + b = c) (h : Q (.int c s.toks) { s with toks := s.toks + 1 }) : wpAny (model prog w) A (binaryOp .Add (.int a t) (.int b u)) Q E s := add_int (by rw [e]; exact h)
/-- two maps of names agree, but for the names of ks -/
def Agree (ks : List Str) (g h : Str → Option Value) : Prop := ∀ y, y ∉ ks → g y = h y
section
variable {ks : List Str} {a : Str} {v : Option Value} {g h : Str → Option Value}
theorem ag_start (t : Agree [] g h) : g = h := funext fun y => t y (fun h => nomatch h)
theorem ag_rfl : Agree ks g g := fun _ _ => rfl
theorem ag_both (t : Agree (a :: ks) g h) : Agree ks (fun y => if y = a then v else g y) (fun y => if y = a then v else h y) := fun y hy => by
  dsimp only
  by_cases e : y = a
  · rw [if_pos e, if_pos e]
  · rw [if_neg e, if_neg e]; exact t y fun q => (List.mem_cons.mp q).elim e hy
theorem ag_ls (m : a ∈ ks) (t : Agree ks g h) : Agree ks (fun y => if y = a then v else g y) h := fun y hy => by
  dsimp only
  rw [if_neg fun (e : y = a) => hy (e ▸ m)]; exact t y hy
theorem ag_rs (m : a ∈ ks) (t : Agree ks g h) : Agree ks g (fun y => if y = a then v else h y) := fun y hy => by
  dsimp only
  rw [if_neg fun (e : y = a) => hy (e ▸ m)]; exact t y hy
theorem lk_hit {α : Type} {v x : α} : (if a = a then v else x) = v := if_pos rfl
theorem lk_miss {α : Type} {b : Str} {v w x : α} (n : decide (a = b) = false) (t : x = v) : (if a = b then w else x) = v := by
  rw [if_neg (of_decide_eq_false n)]; exact t
theorem ag_l (e : h a = v) (t : Agree (a :: ks) g h) : Agree ks (fun y => if y = a then v else g y) h := fun y hy => by
  dsimp only
  by_cases q : y = a
  · rw [if_pos q, q]; exact e.symm
  · rw [if_neg q]; exact t y fun z => (List.mem_cons.mp z).elim q hy
theorem ag_r (e : g a = v) (t : Agree (a :: ks) g h) : Agree ks g (fun y => if y = a then v else h y) := fun y hy => by
  dsimp only
  by_cases q : y = a
  · rw [if_pos q, q]; exact e
  · rw [if_neg q]; exact t y fun z => (List.mem_cons.mp z).elim q hy
end
/-- what follows a statement -/
def EC (M : Model) (A : Around) (rest : List Stmt) (env : Env) (Q : Flow → Shared → Prop) (E : Value → Shared → Prop) (f : Flow) (s : Shared) : Prop := match f with
  | .next => wpAny M A (execs rest env) Q E s
  | f => Q f s
section
variable {M : Model} {A : Around} {rest : List Stmt} {env : Env} {Q : Flow → Shared → Prop} {E : Value → Shared → Prop} {s : Shared} {st : Stmt} {v : Value}
theorem ec_cons (h : wpAny M A (exec st env) (EC M A rest env Q E) E s) : wpAny M A (execs (st :: rest) env) Q E s := wpAny_execs_cons h
theorem ec_next (h : wpAny M A (execs rest env) Q E s) : EC M A rest env Q E .next s := h
theorem ec_ret (h : Q (.ret v) s) : EC M A rest env Q E (.ret v) s := h
theorem ec_brk (h : Q .brk s) : EC M A rest env Q E .brk s := h
theorem ec_cont (h : Q .cont s) : EC M A rest env Q E .cont s := h
end
theorem rsmall {n : Nat} (h : n ≤ 1000000) : Builtin.Range.small 0 (n : Int) 1 = true := small_one (by decide) (by decide) (by (first | lia | omega)) (by (first | lia | omega))
theorem rsize (n : Nat) : Builtin.Range.rangeSize 0 (n : Int) 1 = (n : Int) := by rw [rangeSize_nat]; (first | lia | omega)
section
variable {prog : Program} {w : World} {A : Around} {s : Shared} {K : Frag} {L f : Addr} {h₀ : Heap} {m : Str → Option Value} {news : List (Addr × Obj)} {env : Env} {pos : Pos} {first : List Value} {Q : Value → Shared → Prop}
theorem c_callK {f : Value} {e : Expr} {rest : List Expr} (_X : K.In h₀) (hk : keepIn K f = true) (h : wpAny (model prog w) A (spliced (backTo pos (starEach (e :: rest) env))) (fun vs s₁ => K.In s₁.heap ∧ wpC (model prog w) A (PySem.call f (first ++ vs)) Q s₁) NoX s)
    (he : starEach (e :: rest) env = (false, eval e env) :: starEach rest env := by rfl) (hplain : (backTo pos (starEach rest env)).any (·.1) = false := by rfl) :
    wpC (model prog w) A (callWith pos f first (backTo pos (starEach (e :: rest) env)) []) Q s := by
  rw [he] at h ⊢
  exact c_callWith (by show ((false || (backTo pos (starEach rest env)).any (·.1)) || false) = false; rw [hplain]; rfl) (keeps_K hk) (evalArgs_plain h)
theorem c_callK0 {f : Value} (X : K.In s.heap) (hk : keepIn K f = true) (h : wpC (model prog w) A (PySem.call f (first ++ [])) Q s) : wpC (model prog w) A (callWith pos f first (backTo pos (starEach [] env)) []) Q s :=
  c_callWith rfl (keeps_K hk) (evalArgs_nil3 ⟨X, h⟩)
theorem c_callB {id : String} {e : Expr} {rest : List Expr} (h : wpAny (model prog w) A (spliced (backTo pos (starEach (e :: rest) env))) (fun vs s₁ => wpC (model prog w) A (PySem.call (.builtin id) (first ++ vs)) Q s₁) NoX s)
    (he : starEach (e :: rest) env = (false, eval e env) :: starEach rest env := by rfl) (hplain : (backTo pos (starEach rest env)).any (·.1) = false := by rfl) :
    wpC (model prog w) A (callWith pos (.builtin id) first (backTo pos (starEach (e :: rest) env)) []) Q s := by
  rw [he] at h ⊢
  exact c_callWith (P := fun _ => True) (by show ((false || (backTo pos (starEach rest env)).any (·.1)) || false) = false; rw [hplain]; rfl) (fun _ _ => ⟨.machine, .inr (.inl rfl), Looks.of_pure rfl⟩) (evalArgs_plain (wpAny_mono h (fun _ _ z => ⟨trivial, z⟩) fun _ _ e => e))
theorem c_callT0 {T : String} (h : wpC (model prog w) A (PySem.call (.type T) first []) Q s) : wpC (model prog w) A (callWith pos (.type T) first (backTo pos (starEach [] env)) []) Q s :=
  c_callWith (P := fun _ => True) rfl (fun _ _ => ⟨.machine, .inr (.inl rfl), Looks.of_pure rfl⟩) (evalArgs_nil3 ⟨trivial, by rw [List.append_nil]; exact h⟩)
theorem c_bytearray (F : Fr h₀ L s.heap m) (N : News h₀ L s.heap news) (h : ∀ f h', Fr h₀ L h' m → News h₀ L h' ((f, baObj #[]) :: news) → (∀ p ∈ news, p.1 < f) → Q (.ref f) { s with heap := h' }) : wpC (model prog w) A (PySem.call (.type "bytearray") [] []) Q s := by
  refine ba_made fun h' k e => h _ h' ⟨F.ns.keeps k, fun b o q => k b o (F.keep b o q), F.above⟩ (fun p hp => ?_) fun p hp => Heap.lt_size (N p hp).1
  rcases List.mem_cons.mp hp with rfl | hp
  · refine ⟨e, fun q => absurd F.ns.lt (by rw [← q]; exact Nat.lt_irrefl _), ?_⟩
    cases z : h₀.get? s.heap.objs.size with
    | none => rfl
    | some o => exact absurd (Heap.lt_size (F.keep _ o z)) (Nat.lt_irrefl _)
  · exact ⟨k _ _ (N p hp).1, (N p hp).2⟩
theorem byteArr_snoc (F : List Int) (c : Int) : (byteArr F).push c.toNat.toUInt8 = byteArr (F ++ [c]) := by unfold byteArr; simp
theorem c_append {f : Addr} {B : List Int} {c : Int} {t : Tok} {R : Result → Shared → Prop} {gg : Obj → List (Addr × Obj)} (F : Fr h₀ L s.heap m) (N : News h₀ L s.heap news) (U : UpdF f (baObj (byteArr B)) news gg) (h0 : 0 ≤ c) (h1 : c < 256) (hz : B.length ≤ 1000000)
    (h : ∀ h', Fr h₀ L h' m → News h₀ L h' (gg (baObj (byteArr (B ++ [c])))) → R (.ok (.ret .none)) { s with heap := h' }) : codeC (model prog w) A (.call (.builtin "bytearray.append") ⟨[.ref f, .int c t], []⟩) R s := by
  obtain ⟨a, b', e, hg, x1, x2⟩ := U.split
  have hf := (N (f, baObj (byteArr B)) (by rw [e]; simp)).1
  refine ba_append hf h0 h1 (by rw [byteArr_size]; have : sizeLine = 16777216 := rfl; (first | lia | omega)) ?_
  have k : Keep [f] s.heap (s.heap.update f (Obj.mapBytearray (·.push c.toNat.toUInt8))) := fun x o hx e => (Heap.get?_update_other _ _ (fun q => hx (by rw [q]; exact .head _))).trans e
  have e2 : (s.heap.update f (Obj.mapBytearray (·.push c.toNat.toUInt8))).get? f = some (baObj (byteArr (B ++ [c]))) := by
    rw [← byteArr_snoc]; exact Heap.get?_update_self _ hf rfl
  obtain ⟨F', N'⟩ := upd1 F N U k e2
  exact h _ F' N'
theorem ba_plain : PlainAttrs "bytearray" := ⟨⟨"bytearray.__getattribute__", by rw [typeLookup_type, builtinLookup_eq_fast]; kernel_rfl, by decide +kernel⟩, by rw [typeLookup_type, builtinLookup_eq_fast]; kernel_rfl⟩
theorem ba_methtype : typeOf (.builtin "bytearray.append") = pure (.type "method_descriptor") := by show builtinType _ = _; rw [builtinType_eq_fast]; kernel_rfl
theorem ba_method {M : Model} {f : Addr} {b : Array UInt8} {pl : Sem Bool} {gg : Obj → List (Addr × Obj)} {E : Value → Shared → Prop} {Q : Value × List Value → Shared → Prop} (N : News h₀ L s.heap news) (U : UpdF f (baObj b) news gg) (h : Q (.builtin "bytearray.append", [.ref f]) s) :
    wpAny M A (getMethod (.ref f) "append" pl) Q E s := by
  obtain ⟨a, b', e, _, _, _⟩ := U.split
  have hf := (N (f, baObj b) (by rw [e]; simp)).1
  exact getMethod_builtin ⟨_, hf, rfl⟩ ba_plain ba_app_slot ba_methtype (fun a q => by cases q; exact ⟨_, hf, rfl⟩) h
end
theorem back {Q : Value → Shared → Prop} {v : Value} {s' : Shared} (h : Q v s') : Back Q (.ok (.ret v)) s' := h
/-- many objects change at once: Ds are those that wait -/
structure Pend (h₀ : Heap) (L : Addr) (h' : Heap) (D0 Ds : List Addr) (news : List (Addr × Obj)) : Prop where
  n : ∀ p ∈ news, (h'.get? p.1 = some p.2 ∨ p.1 ∈ Ds) ∧ p.1 ≠ L ∧ h₀.get? p.1 = none
  d : ∀ a ∈ D0, a ∈ Ds ∨ (a ≠ L ∧ h₀.get? a = none)
theorem Pend.start {h₀ h h' : Heap} {L : Addr} {news : List (Addr × Obj)} {D : List Addr} (N : News h₀ L h news) (k : Keep D h h') : Pend h₀ L h' D D news :=
  ⟨fun p hp => ⟨(Classical.em (p.1 ∈ D)).elim .inr fun q => .inl (k _ _ q (N p hp).1), (N p hp).2⟩, fun _ ha => .inl ha⟩
theorem Pend.step {h₀ h' : Heap} {L d : Addr} {D0 Ds : List Addr} {o o' : Obj} {news : List (Addr × Obj)} {g : Obj → List (Addr × Obj)} (P : Pend h₀ L h' D0 (d :: Ds) news) (U : UpdF d o news g) (e : h'.get? d = some o') : Pend h₀ L h' D0 Ds (g o') := by
  obtain ⟨a, b, rfl, hg, x1, x2⟩ := U.split
  have D := (P.n (d, o) (by simp)).2
  refine ⟨fun p hp => ?_, fun x hx => ?_⟩
  · rw [hg] at hp
    have cut : p ∈ a ++ (d, o) :: b → p.1 ≠ d → (h'.get? p.1 = some p.2 ∨ p.1 ∈ Ds) ∧ p.1 ≠ L ∧ h₀.get? p.1 = none := fun q n =>
      ⟨(P.n p q).1.elim .inl fun z => .inr ((List.mem_cons.mp z).resolve_left n), (P.n p q).2⟩
    rcases List.mem_append.mp hp with q | q
    · exact cut (List.mem_append_left _ q) (x1 p q)
    · rcases List.mem_cons.mp q with rfl | q
      · exact ⟨.inl e, D⟩
      · exact cut (List.mem_append_right _ (.tail _ q)) (x2 p q)
  · rcases P.d x hx with q | q
    · rcases List.mem_cons.mp q with rfl | q
      · exact .inr D
      · exact .inl q
    · exact .inr q
theorem Pend.fin {h₀ h h' : Heap} {L : Addr} {D0 : List Addr} {m : Str → Option Value} {news : List (Addr × Obj)} (P : Pend h₀ L h' D0 [] news) (F : Fr h₀ L h m) (k : Keep D0 h h') : Fr h₀ L h' m ∧ News h₀ L h' news :=
  ⟨keptF F k fun a ha => (P.d a ha).resolve_left (fun q => nomatch q), fun p hp => ⟨(P.n p hp).1.resolve_right (fun q => nomatch q), (P.n p hp).2⟩⟩
theorem TEnd.nextW {g : Heap} {L : Addr} {Jn : (Str → Option Value) → List (Addr × Obj) → Prop} {s₁ : Shared} {Q : Flow → Shared → Prop} {h' : Heap} {tk : Nat} {m' : Str → Option Value} {news' : List (Addr × Obj)}
    (F : Fr g L h' m') (N : News g L h' news') (hJ : Jn m' news') : TEnd g L L [] Jn s₁ Q .next { s₁ with heap := h', toks := tk } :=
  ⟨h', tk, m', news', rfl, F, N, fun p hp => (N p hp).2.1, hJ⟩
theorem TEnd.nextF {g : Heap} {L I : Addr} {own : List (Addr × Obj)} {Jn : (Str → Option Value) → List (Addr × Obj) → Prop} {s₁ : Shared} {Q : Flow → Shared → Prop} {h' : Heap} {tk : Nat} {m' : Str → Option Value} {news' : List (Addr × Obj)}
    (F : Fr g L h' m') (N : News g L h' (own ++ news')) (hI : ∀ p ∈ news', p.1 ≠ I) (hJ : Jn m' news') : TEnd g L I own Jn s₁ Q .next { s₁ with heap := h', toks := tk } :=
  ⟨h', tk, m', news', rfl, F, N, hI, hJ⟩
structure NqL (d : Nat) (l : List Nat) : Prop where
  h : ∀ a ∈ l, Nq a d
theorem NqL.of_lt {d : Addr} {news : List (Addr × Obj)} (h : ∀ p ∈ news, p.1 < d) : NqL d (news.map (·.1)) := ⟨fun a ha => by
  obtain ⟨p, hp, rfl⟩ := List.mem_map.mp ha
  exact Nat.ne_of_lt (h p hp)⟩
theorem NqL.of_lt2 {d x : Addr} {news : List (Addr × Obj)} (h : ∀ p ∈ news, p.1 < d) (l : d < x) : NqL x (d :: news.map (·.1)) := ⟨fun a ha => by
  rcases List.mem_cons.mp ha with rfl | ha
  · exact Nat.ne_of_lt l
  · obtain ⟨p, hp, rfl⟩ := List.mem_map.mp ha
    exact Nat.ne_of_lt (Nat.lt_trans (h p hp) l)⟩
def AllNe (d : Nat) : List (Addr × Obj) → Prop
  | [] => True
  | p :: r => Nq p.1 d ∧ AllNe d r
theorem allNe_of {d : Addr} : ∀ {l : List (Addr × Obj)}, (∀ p ∈ l, p.1 ≠ d) → AllNe d l
  | [], _ => trivial
  | _ :: _, h => ⟨h _ (.head _), allNe_of fun p hp => h p (.tail _ hp)⟩
theorem addN' {h₀ h h' : Heap} {L a : Addr} {m : Str → Option Value} {o : Obj} {news' : List (Addr × Obj)} (F : Fr h₀ L h m) (N : News h₀ L h' news') (hn : h.get? a = none) (e : h'.get? a = some o) : News h₀ L h' ((a, o) :: news') := fun p hp => by
  rcases List.mem_cons.mp hp with rfl | hp
  · refine ⟨e, fun q => ?_, ?_⟩
    · obtain ⟨oL, es, ep, hL, r⟩ := F.ns
      have q : a = L := q
      subst q
      rw [hn] at hL; cases hL
    · cases z : h₀.get? a with
      | none => rfl
      | some o' => have := F.keep a o' z; rw [hn] at this; cases this
  · exact N p hp
theorem neN0 {h₀ h : Heap} {L a : Addr} {news : List (Addr × Obj)} (N : News h₀ L h news) (hn : h.get? a = none) : NqL a (news.map (·.1)) := ⟨fun x hx e => by
  obtain ⟨p, hp, rfl⟩ := List.mem_map.mp hx
  have := (N p hp).1
  rw [e, hn] at this; cases this⟩
theorem Ent.new {s : Shared} {g h' : Heap} {L a : Addr} {o : Obj} {S news : List (Addr × Obj)} (En : Ent s g S) (N : News g L h' news) (hm : (a, o) ∈ news) (hS : ∀ p ∈ S, p.1 ≠ a) : s.heap.get? a = none := by
  cases z : s.heap.get? a with
  | none => rfl
  | some o' =>
    have := En.rest a o' (fun q => by obtain ⟨p, hp, e⟩ := List.mem_map.mp q; exact hS p hp e) z
    rw [(N _ hm).2.2] at this; cases this
theorem w_make (C : Addr) (vals : List Value) : (Code.builtin "type.__call__" ⟨.ref C :: vals, []⟩).weight = 1 := rfl
theorem u_make (C : Addr) (vals : List Value) : (Code.builtin "type.__call__" ⟨.ref C :: vals, []⟩).cUnits = 1 := rfl
theorem roomN {a b c n : Nat} (h : a + b < n) (hc : Nat.ble c b = true) : a + c < n := Nat.lt_of_le_of_lt (Nat.add_le_add_left (Nat.le_of_ble_eq_true hc) a) h
end Mine
open PySem PySem.W PyProof.Rows PySem.Calls PySem.Spec
set_option Elab.async false
set_option linter.unusedVariables false
set_option pp.maxSteps 2000
namespace Mine
set_option maxRecDepth 100000
set_option maxHeartbeats 4000000
def fineX (sc : Scope) (binds : List (Str × Value)) : Bool :=
  !sc.isCoroutine && !sc.isGenerator && (match sc.kind with | .function => true | _ => false) && binds.all fun y => sc.names.lookup y.1 == some .local || sc.names.lookup y.1 == some .cell
section
variable {w : World} {dp un : Nat} {fr : Option (List Env)} {gd : Option (List Code)} {h₀ : Heap} {s : Shared} {R : Result → Shared → Prop}
/-- the goal of a def that is entered, and has cells -/
def EntX (w : World) (s : Shared) (S : List (Addr × Obj)) (h₀ : Heap) (qual : Str) (sc : Scope) (f : Addr) (cdv : Value) (binds : List (Str × Value)) (P : Heap → Addr → Heap → Nat → Prop) : Prop :=
  ∀ g L h₁ mean mg mb tk cells, Fr g L h₁ (bindL (envOfC qual sc L f cdv).kindOf binds fun _ => none) → News g L h₁ (cells ++ S) →
    CellsAre (bindC (envOfC qual sc L f cdv).kindOf binds fun _ => none) (cellsFrom (L + 1) sc.names []) cells → (∀ p ∈ S, p.1 < L) → (kk w.params).In g → Top vq (looseW vq lo) mean mg mb g → Ent s g S → Stc w g → h₀.StaysIn g → P g L h₁ tk
theorem cells_env {w : World} {M : Model} {A : Around} {s : Shared} {S : List (Addr × Obj)} {binds : List (Str × Value)} {f : Addr} {qual : Str} {sc : Scope} {cdv : Value} {Q : Env → Shared → Prop} {E : Value → Shared → Prop}
    (C : Stc w h₀) (k : h₀.StaysIn s.heap) (hS : ∀ p ∈ S, s.heap.get? p.1 = some p.2 ∧ h₀.get? p.1 = none)
    (hsc : fineX sc binds = true) (hnd : ((cellsFrom 0 sc.names []).map (·.1)).Nodup)
    (h : EntX w s S h₀ qual sc f cdv binds fun g L h₁ tk => h₁.NoLimit → Q (envOfC qual sc L f cdv) { s with heap := h₁, toks := tk }) :
    wpAny M A (newFunctionEnv sc mainGlobals [] binds (qual ++ ".<locals>.") (some f) cdv none builtinsNs) Q E s := by
  obtain ⟨mean, mg, mb, T⟩ := C.T
  simp only [fineX, Bool.and_eq_true, Bool.not_eq_true'] at hsc
  obtain ⟨⟨⟨h1, h2⟩, h3⟩, h5⟩ := hsc
  have h3' : sc.kind = .function := by revert h3; cases sc.kind <;> simp
  have nm : ∀ b o, h₀.get? b = some o → b ∉ S.map (·.1) := fun b o e q => by
    obtain ⟨p, hp, rfl⟩ := List.mem_map.mp q
    rw [(hS p hp).2] at e; cases e
  have kg : h₀.StaysIn (hideAll s.heap (S.map (·.1))) := fun b o e => hideAll_get _ (k b o e) (nm b o e)
  refine wpAny_newFunctionEnv_cells h3' (kindsX h5 _) fun env' he s' x => ?_
  subst he
  obtain ⟨h₁, tk, rfl, _⟩ := x.done
  have hk₁ := x.toInCall.keep
  obtain ⟨cells, NC, Y⟩ := PyProof.Rows.Cl.news (h₀ := s.heap) (Nat.le_refl _) fun n c hm => ⟨x.cell n c (lookup_of_mem_nodup (cellsFrom_names sc.names 0 (s.heap.objs.size + 1) [] [] rfl ▸ hnd) hm), x.above n c hm⟩
  refine h _ s.heap.objs.size h₁ mean mg mb tk cells ⟨x.toInCall.ns, fun b o e => hk₁ b o (of_hideAll _ e), Nat.le_of_eq (hideAll_size _ _)⟩ (fun p hp => ?_) Y (fun p hp => Heap.lt_size (hS p hp).1)
    (C.X.keeps kg) (T.keeps kg) ⟨fun p hp => (hS p hp).1, fun x o q e => hideAll_get _ e q⟩ ⟨C.X.keeps kg, mean, mg, mb, T.keeps kg⟩ kg ((T.nolimit.keeps k).keeps hk₁)
  rcases List.mem_append.mp hp with hp | hp
  · refine ⟨(NC p hp).1, (NC p hp).2.1, ?_⟩
    cases q : (hideAll s.heap (S.map (·.1))).get? p.1 with
    | none => rfl
    | some o => have := of_hideAll _ q; rw [(NC p hp).2.2] at this; cases this
  · exact ⟨hk₁ _ _ (hS p hp).1, Nat.ne_of_lt (Heap.lt_size (hS p hp).1), hideAll_none _ (List.mem_map_of_mem hp)⟩
theorem beginX {f : Addr} {vs : List Value} (S : List (Addr × Obj)) (binds : List (Str × Value)) {st : Stmt}
    {n name qual : Str} {a : Arguments} {b : List Stmt} {d r tp ts bd ps} {sc : Scope} {pm cdv : Value}
    (C : Stc w h₀) (k : h₀.StaysIn s.heap) (hS : ∀ p ∈ S, s.heap.get? p.1 = some p.2 ∧ h₀.get? p.1 = none)
    (ho : (kk w.params).lookup f = some ⟨.type "function", none, .func (fnOf name qual (fArgs st) (fBody st) (fScope st) .none .none .none pm none cdv .none), #[]⟩)
    (he : st = .FunctionDef n a b d r tp sc ts bd ps)
    (hcd : codeIn (kk w.params) cdv qual = true) (hroom : dp < recursionLimit)
    (hbind : bindArgs (fnOf name qual a b sc .none .none .none pm none cdv .none) ⟨vs, []⟩ = pure binds) (hsc : fineX sc binds = true) (hnd : ((cellsFrom 0 sc.names []).map (·.1)).Nodup)
    (h : EntX w s S h₀ qual sc f cdv binds fun g L h₁ tk =>
      wpAny (model pw w) ((ar dp fr gd un).deeper (envOfC qual sc L f cdv)) (execs b (envOfC qual sc L f cdv)) (fun fl s' => R (.ok (.ret (match fl with | .ret v => v | _ => .none))) s') (fun _ _ => False) { s with heap := h₁, toks := tk }) :
    codeAny (model pw w) (ar dp fr gd un) (.call (.ref f) ⟨vs, []⟩) R s := by
  subst he
  have hsc' := hsc
  simp only [fineX, Bool.and_eq_true, Bool.not_eq_true'] at hsc'
  obtain ⟨⟨⟨h1, h2⟩, h3⟩, h5⟩ := hsc'
  refine codeAny_call_function (fd := fnOf name qual a b sc .none .none .none pm none cdv .none) (body := b) hroom ((C.X.keeps k) _ _ ho) rfl h1 h2 rfl (codeRec_of (C.X.keeps k) hcd) ((BindsTo.of_eq hbind) _ _ _ _ ?_)
  exact cells_env C k hS hsc hnd fun g L h₁ mean mg mb tk cells a1 a2 a3 a4 a5 a6 a7 a8 a9 nl => ⟨nl, codeAny_func (wpAny_mono (h g L h₁ mean mg mb tk cells a1 a2 a3 a4 a5 a6 a7 a8 a9) (fun _ _ q => q) fun _ _ e => e.elim)⟩
theorem beginXC {f : Addr} {vs : List Value} (S : List (Addr × Obj)) (binds : List (Str × Value)) {st : Stmt}
    {n name qual : Str} {a : Arguments} {b : List Stmt} {d r tp ts bd ps} {sc : Scope} {pm cdv : Value}
    (C : Stc w h₀) (k : h₀.StaysIn s.heap) (hS : ∀ p ∈ S, s.heap.get? p.1 = some p.2 ∧ h₀.get? p.1 = none)
    (ho : (kk w.params).lookup f = some ⟨.type "function", none, .func (fnOf name qual (fArgs st) (fBody st) (fScope st) .none .none .none pm none cdv .none), #[]⟩)
    (he : st = .FunctionDef n a b d r tp sc ts bd ps)
    (hcd : codeIn (kk w.params) cdv qual = true) (hroom : dp < recursionLimit)
    (hbind : bindArgs (fnOf name qual a b sc .none .none .none pm none cdv .none) ⟨vs, []⟩ = pure binds) (hsc : fineX sc binds = true) (hnd : ((cellsFrom 0 sc.names []).map (·.1)).Nodup)
    (h : EntX w s S h₀ qual sc f cdv binds fun g L h₁ tk =>
      wpC (model pw w) ((ar dp fr gd un).deeper (envOfC qual sc L f cdv)) (execs b (envOfC qual sc L f cdv)) (fun fl s' => R (.ok (.ret (match fl with | .ret v => v | _ => .none))) s') { s with heap := h₁, toks := tk }) :
    codeC (model pw w) (ar dp fr gd un) (.call (.ref f) ⟨vs, []⟩) R s := by
  subst he
  have hsc' := hsc
  simp only [fineX, Bool.and_eq_true, Bool.not_eq_true'] at hsc'
  obtain ⟨⟨⟨h1, h2⟩, h3⟩, h5⟩ := hsc'
  refine codeC_call_function (fd := fnOf name qual a b sc .none .none .none pm none cdv .none) (body := b) hroom ((C.X.keeps k) _ _ ho) rfl h1 h2 rfl (codeRec_of (C.X.keeps k) hcd) ((BindsTo.of_eq hbind) _ _ _ _ ?_)
  exact cells_env C k hS hsc hnd fun g L h₁ mean mg mb tk cells a1 a2 a3 a4 a5 a6 a7 a8 a9 nl => ⟨nl, codeC_func (h g L h₁ mean mg mb tk cells a1 a2 a3 a4 a5 a6 a7 a8 a9)⟩
end
end Mine

open PySem PySem.W PyProof.Rows PySem.Calls PySem.Spec
set_option Elab.async false
set_option linter.unusedVariables false
set_option pp.maxSteps 2000
namespace Mine
set_option maxRecDepth 100000
set_option maxHeartbeats 4000000
def Off (a : Nat) (l : List (Addr × Obj)) : Prop := ∀ p ∈ l, p.1 ≠ a
section
variable {prog : Program} {w : World} {A : Around} {s : Shared} {env : Env} {g : Heap} {Q : Value → Shared → Prop}
/-- the end of an element of a comprehension -/
inductive CEnd (g : Heap) (L C D I : Addr) (oL oI : Obj) (vals : List Value) (kD : Nat) (J : List Value → List (Addr × Obj) → Prop) (s : Shared) (v : Value) (s₄ : Shared) : Prop
  | mk (h' : Heap) (tk' : Nat) (mc' : Str → Option Value) (news' : List (Addr × Obj)) (e : s₄ = { s with heap := h', toks := tk' }) (F : Fr g C h' mc') (N : News g C h' ((L, oL) :: (D, listOf vals.toArray kD) :: (I, oI) :: news')) (o1 : Off L news') (o2 : Off D news') (o3 : Off I news') (j : J (vals ++ [v]) news') : CEnd g L C D I oL oI vals kD J s v s₄
inductive CInv (g : Heap) (Cc L Dd Ii : Addr) (oL : Obj) (a₀ : Int) (n : Nat) (J : Nat → List Value → List (Addr × Obj) → Prop) (s : Shared) (k : Nat) (s' : Shared) : Prop
  | mk (i : Nat) (h : Heap) (tk : Nat) (mc : Str → Option Value) (vals : List Value) (kD : Nat) (news₁ : List (Addr × Obj)) (e : s' = { s with heap := h, toks := tk }) (hi : i ≤ n) (hk : k = n + 1 - i) (hl : vals.length = i) (j : J i vals news₁) (it : IsRangeIter h Ii (a₀ + (i : Nat) * 1) ((n : Int) - (i : Nat)) 1) (F : Fr g Cc h mc)
    (N : News g Cc h ((L, oL) :: (Dd, listOf vals.toArray kD) :: (Ii, { cls := .type "range_iterator", data := .fields #[rawInt (a₀ + (i : Nat) * 1), rawInt ((n : Int) - (i : Nat)), rawInt 1] }) :: news₁)) (o1 : Off L news₁) (o2 : Off Dd news₁) (o3 : Off Ii news₁) : CInv g Cc L Dd Ii oL a₀ n J s k s'
theorem nw_cn {g h : Heap} {L a : Addr} {o : Obj} {l : List (Addr × Obj)} (e : h.get? a = some o ∧ a ≠ L ∧ g.get? a = none) (N : News g L h l) : News g L h ((a, o) :: l) := List.forall_mem_cons.mpr ⟨e, N⟩
theorem nw_hd {g h : Heap} {L a : Addr} {o : Obj} {l : List (Addr × Obj)} (N : News g L h ((a, o) :: l)) : h.get? a = some o ∧ a ≠ L ∧ g.get? a = none := N _ (.head _)
theorem nw_tl {g h : Heap} {L : Addr} {p : Addr × Obj} {l : List (Addr × Obj)} (N : News g L h (p :: l)) : News g L h l := fun q hq => N q (.tail _ hq)
theorem nw_ch {g h h' : Heap} {L d : Addr} {l : List (Addr × Obj)} (N : News g L h l) (k : ∀ b o, b ≠ d → h.get? b = some o → h'.get? b = some o) (o : Off d l) : News g L h' l := fun p hp => ⟨k _ _ (o p hp) (N p hp).1, (N p hp).2⟩
theorem listOf_push (vals : List Value) (k : Nat) (v : Value) : listOf (vals.toArray.push v) k = listOf (vals ++ [v]).toArray k := by simp
/-- a comprehension over a range, its elements by a walk of their own -/
theorem comp_rangeG {elt iter : Expr} {x : Str} {px : Pos} {scope : Scope} {pos : Pos} {cl : List (Str × Addr)} {r : Addr} {a₀ b₀ : Int} {t₀ u₀ v₀ : Tok} {n : Nat} {m : Str → Option Value} {news : List (Addr × Obj)} (J : Nat → List Value → List (Addr × Obj) → Prop)
    (hh : A.handled = none) (hcell : ∀ y ∈ scope.names, y.2 ≠ .cell) (hkind : scope.kind = .function) (hx : scope.names.lookup x = some .local)
    (hr : IsRange s.heap r a₀ b₀ 1 t₀ u₀ v₀) (hsmall : Builtin.Range.small a₀ b₀ 1 = true) (hn : Builtin.Range.rangeSize a₀ b₀ 1 = (n : Int)) (hn2 : n ≤ 1000) (F : Fr g env.locals s.heap m) (N : News g env.locals s.heap news) (h0 : J 0 [] news)
    (turn : ∀ (I C D : Addr) (oL oI : Obj) (i : Nat) (t : Tok) (vals : List Value) (kD : Nat) (mc : Str → Option Value) (news₁ : List (Addr × Obj)) (h : Heap) (tk : Nat), i < n → J i vals news₁ → vals.length = i → Fr g C h (fun y => if y = x then some (.int (a₀ + (i : Nat)) t) else mc y) → News g C h ((env.locals, oL) :: (D, listOf vals.toArray kD) :: (I, oI) :: news₁) →
      Nq env.locals D → Nq env.locals I → Nq D I → Nq C env.locals → Off env.locals news₁ → Off D news₁ → Off I news₁ →
      wpAny (model prog w) A (eval elt (compEnvC scope cl C env)) (CEnd g env.locals C D I oL oI vals kD (J (i + 1)) { s with heap := h, toks := tk }) NoX { s with heap := h, toks := tk })
    (PP : Value → Addr → Result → Shared → Prop)
    (fin : ∀ D C h' tk' vals kD news' mc, vals.length = n → J n vals news' → Fr g env.locals h' m → Fr g C h' mc → News g env.locals h' ((D, listOf vals.toArray kD) :: news') → Off D news' → Off C ((D, listOf vals.toArray kD) :: news') → C ≠ env.locals → g.get? C = none → PP (.ref D) C (.ok .next) { s with heap := h', toks := tk' }) :
    wpAny (model prog w) A (pyIter (.ref r)) (fun it s₂ => wpAny (model prog w) A (newList []) (fun acc s₃ => wpAny (model prog w) A (newFunctionEnv scope env.globals cl [] env.qual none .none (some env)) (fun cenv s₄ =>
      codeAny (model prog w) A (.compStart (.ListComp elt [⟨.Name x px, iter, [], 0⟩] scope pos) 0 it acc { cenv with scope := relabel scope env }) (PP acc cenv.locals) s₄) NoX s₃) NoX s₂) NoX s := by
  obtain ⟨oL, esL, epL, hLo, hLr⟩ := F.ns
  have hL1 : @LT.lt Nat _ env.locals s.heap.objs.size := Heap.lt_size hLo
  have hgL : g.get? env.locals = none := Heap.get?_none_of_le F.above
  have none_of : ∀ a, s.heap.objs.size ≤ a → g.get? a = none := fun a ha => by
    cases e : g.get? a with
    | none => rfl
    | some o => exact absurd (Heap.lt_size (F.keep a o e)) (Nat.not_lt.mpr ha)
  refine wpAny_pyIter_range hr hsmall ?_
  refine wpAny_newObj_type (wpAny_newFunctionEnv hcell (by intro y hy; simp at hy) (fun h₁ hns₁ hsb₁ => ?_) hkind)
  dsimp only at hns₁ hsb₁ ⊢
  rw [hn] at hns₁ hsb₁ ⊢
  generalize hH1 : s.heap.push { cls := .type "range_iterator", data := .fields #[rawInt a₀, rawInt (n : Int), rawInt 1] } = H1 at hns₁ hsb₁ ⊢
  generalize hH2 : H1.push { cls := .type "list", dict := none, data := .seq ([] : List Value).toArray } = H2 at hns₁ hsb₁ ⊢
  have s1 : H1.objs.size = s.heap.objs.size + 1 := by rw [← hH1, Heap.size_push]
  have s2 : H2.objs.size = s.heap.objs.size + 2 := by rw [← hH2, Heap.size_push, s1]
  have eI : H1.get? s.heap.objs.size = some { cls := .type "range_iterator", data := .fields #[rawInt a₀, rawInt (n : Int), rawInt 1] } := by rw [← hH1]; exact Heap.get?_push_size _ rfl
  have eD : H2.get? H1.objs.size = some (listOf ([] : List Value).toArray 0) := by rw [← hH2]; exact Heap.get?_push_size _ rfl
  have up2 : ∀ b o, H2.get? b = some o → h₁.get? b = some o := fun b o e => hsb₁.extBut b o (Nat.ne_of_lt (Heap.lt_size e)) (Heap.get?_push_of_some _ e)
  have up1 : ∀ b o, H1.get? b = some o → h₁.get? b = some o := fun b o e => up2 b o (by rw [← hH2]; exact Heap.get?_push_of_some _ e)
  have up0 : ∀ b o, s.heap.get? b = some o → h₁.get? b = some o := fun b o e => up1 b o (by rw [← hH1]; exact Heap.get?_push_of_some _ e)
  have hgI := none_of s.heap.objs.size (Nat.le_refl _)
  have hgD := none_of H1.objs.size (by (first | lia | omega))
  have hgC := none_of H2.objs.size (by (first | lia | omega))
  have dLD : Nq env.locals H1.objs.size := by show @Ne Nat _ _; (first | lia | omega)
  have dLI : Nq env.locals s.heap.objs.size := by show @Ne Nat _ _; (first | lia | omega)
  have dDI : Nq H1.objs.size s.heap.objs.size := by show @Ne Nat _ _; (first | lia | omega)
  have dCL : Nq H2.objs.size env.locals := by show @Ne Nat _ _; (first | lia | omega)
  have dCI : @Ne Nat H2.objs.size s.heap.objs.size := by (first | lia | omega)
  have dCD : @Ne Nat H2.objs.size H1.objs.size := by (first | lia | omega)
  have N0 : News g H2.objs.size h₁ ((env.locals, oL) :: (H1.objs.size, listOf ([] : List Value).toArray 0) :: (s.heap.objs.size, { cls := .type "range_iterator", data := .fields #[rawInt a₀, rawInt (n : Int), rawInt 1] }) :: news) :=
    nw_cn ⟨up0 _ _ hLo, (Ne.symm dCL : _), hgL⟩ (nw_cn ⟨up2 _ _ eD, Ne.symm dCD, hgD⟩ (nw_cn ⟨up1 _ _ eI, Ne.symm dCI, hgI⟩ fun p hp =>
      ⟨up0 _ _ (N p hp).1, fun e => absurd (e ▸ Heap.lt_size (N p hp).1) (by show ¬ @LT.lt Nat _ _ _; (first | lia | omega)), (N p hp).2.2⟩))
  have off : ∀ a, s.heap.objs.size ≤ a → Off a news := fun a ha p hp e => absurd (Heap.lt_size (N p hp).1) (by rw [e]; exact Nat.not_lt.mpr ha)
  have F0 : Fr g H2.objs.size h₁ (fun _ => none) := ⟨hns₁, fun b o e => up0 b o (F.keep b o e), Nat.le_trans F.above (by show @LE.le Nat _ _ _; (first | lia | omega))⟩
  generalize hC' : H2.objs.size = Cc at *
  generalize hD' : H1.objs.size = Dd at *
  generalize hI' : s.heap.objs.size = Ii at *
  have post : ∀ h tk (mc : Str → Option Value) vals kD news₁, vals.length = n → J n vals news₁ → Fr g Cc h mc → News g Cc h ((env.locals, oL) :: (Dd, listOf vals.toArray kD) :: news₁) → Off Dd news₁ → Off env.locals news₁ →
      PP (.ref Dd) Cc (.ok .next) { s with heap := h, toks := tk } := by
    intro h tk mc vals kD news₁ hl hJ Fc Nc hof offL
    have q1 := nw_hd (nw_tl Nc)
    exact fin Dd Cc h tk vals kD news₁ mc hl hJ ⟨⟨oL, esL, epL, (nw_hd Nc).1, hLr⟩, Fc.keep, F.above⟩ Fc (nw_cn ⟨q1.1, (Ne.symm dLD : _), hgD⟩ fun p hp => ⟨(nw_tl (nw_tl Nc) p hp).1, offL p hp, (nw_tl (nw_tl Nc) p hp).2.2⟩) hof (fun p hp => (nw_tl Nc p hp).2.1) (dCL : _) hgC
  have hp' : ((compEnvC scope cl Cc env).scope.kind == .class || ((compEnvC scope cl Cc env).scope.kind == .module && (compEnvC scope cl Cc env).locals != (compEnvC scope cl Cc env).globals)) = false := by
    show (scope.kind == .class || (scope.kind == .module && _)) = false
    rw [hkind]; rfl
  have loop : codeAny (model prog w) A (.compLoop (.ListComp elt [⟨.Name x px, iter, [], 0⟩] scope pos) 0 (.ref Ii) (.ref Dd) (compEnvC scope cl Cc env)) (PP (.ref Dd) Cc)
      { s with heap := h₁, toks := s.toks + ([] : List (Str × Value)).length } := by
    refine codeAny_compLoop_list (CInv g Cc env.locals Dd Ii oL a₀ n J s) ?_ (n + 1)
      ⟨0, h₁, _, _, [], 0, news, rfl, Nat.zero_le _, rfl, rfl, h0, by simpa using up1 _ _ eI, F0, by simpa using N0, (fun p hp => (N p hp).2.1), off _ (by (first | lia | omega)), off _ (Nat.le_refl _)⟩
    rintro k s' ⟨i, h, tk, mc, vals, kD, news₁, rfl, hi, rfl, hl, hJ, hit, Fc, Nc, oL1, oD1, oI1⟩
    by_cases hlt : i < n
    · refine wpAny_pyNext_range_item hit (by (first | lia | omega)) fun h' hit' hs' => ?_
      have kI : ∀ b o, b ≠ Ii → h.get? b = some o → h'.get? b = some o := fun b o e q => (hs'.2 b e).trans q
      have F2 : Fr g Cc h' mc := ⟨Fc.ns.at' fun o e => kI _ o dCI e, fun b o e => kI b o (fun q => by rw [q, hgI] at e; cases e) (Fc.keep b o e), Fc.above⟩
      have e1 : a₀ + ((i + 1 : Nat) : Int) * 1 = a₀ + (i : Nat) * 1 + 1 := by (first | lia | omega)
      have e2 : (n : Int) - ((i + 1 : Nat) : Int) = (n : Int) - (i : Nat) - 1 := by (first | lia | omega)
      rw [← e1, ← e2] at hit'
      have N2 : News g Cc h' ((env.locals, oL) :: (Dd, listOf vals.toArray kD) :: (Ii, { cls := .type "range_iterator", data := .fields #[rawInt (a₀ + ((i + 1 : Nat) : Int) * 1), rawInt ((n : Int) - ((i + 1 : Nat) : Int)), rawInt 1] }) :: news₁) :=
        nw_cn ⟨kI _ _ (fun e => dLI e) (nw_hd Nc).1, (nw_hd Nc).2⟩ (nw_cn ⟨kI _ _ (fun e => dDI e) (nw_hd (nw_tl Nc)).1, (nw_hd (nw_tl Nc)).2⟩ (nw_cn ⟨hit', Ne.symm dCI, hgI⟩ (nw_ch (nw_tl (nw_tl (nw_tl Nc))) kI oI1)))
      refine wpAny_assign_Name (wpAny_storeName_local (lookup_relabel_local hx) F2.ns (fun h₂ hn₂ hs₂ => ?_) hp')
      have F3 := F2.set hn₂ hs₂
      have N3 := N2.set hs₂
      have e3 : a₀ + (i : Int) * 1 = a₀ + (i : Nat) := by (first | lia | omega)
      have F3' : Fr g Cc h₂ (fun y => if y = x then some (.int (a₀ + (i : Nat)) tk) else mc y) := by rw [e3] at F3; exact F3
      refine wpAny_mono (turn Ii Cc Dd oL _ i tk vals kD mc news₁ h₂ _ hlt hJ hl F3' N3 dLD dLI dDI dCL oL1 oD1 oI1) (fun v s₄ hv => ?_) fun _ _ e => e.elim
      obtain ⟨h₃, tk₃, mc₃, news₃, rfl, F4, N4, o1, o2, o3, hJ'⟩ := hv
      refine append_at (N4 _ (.tail _ (.head _))).1 (fun h₄ hs₄ e₄ => ?_) (by rw [List.size_toArray, hl]; exact Nat.le_trans (Nat.le_of_lt hlt) (Nat.le_trans hn2 (by decide)))
      have kD4 : ∀ b o, b ≠ Dd → h₃.get? b = some o → h₄.get? b = some o := fun b o e q => (hs₄.2 b e).trans q
      have q4 := nw_hd (nw_tl (nw_tl N4))
      exact ⟨n + 1 - (i + 1), dec_turn hlt, i + 1, h₄, _, mc₃, vals ++ [v], kD + 1, news₃, rfl, hlt, rfl, by simp [hl], hJ', kD4 _ _ (fun e => dDI e.symm) q4.1,
        ⟨F4.ns.at' fun o e => kD4 _ o dCD e, fun b o e => kD4 b o (fun q => by rw [q, hgD] at e; cases e) (F4.keep b o e), F4.above⟩,
        nw_cn ⟨kD4 _ _ (fun e => dLD e) (nw_hd N4).1, (nw_hd N4).2⟩ (nw_cn ⟨by rw [← listOf_push]; exact e₄, Ne.symm dCD, hgD⟩ (nw_cn ⟨kD4 _ _ (fun e => dDI e.symm) q4.1, q4.2⟩ (nw_ch (nw_tl (nw_tl (nw_tl N4))) kD4 o2))), o1, o2, o3⟩
    · have hin : i = n := by (first | lia | omega)
      subst hin
      refine wpAny_pyNext_range_end hh hit (by (first | lia | omega)) fun h' he' => ?_
      have kI : ∀ b o, b ≠ Ii → h.get? b = some o → h'.get? b = some o := fun b o e q => he' b o e q
      exact post h' tk mc vals kD news₁ hl hJ ⟨Fc.ns.at' fun o e => kI _ o dCI e, fun b o e => kI b o (fun q => by rw [q, hgI] at e; cases e) (Fc.keep b o e), Fc.above⟩
        (nw_cn ⟨kI _ _ (fun e => dLI e) (nw_hd Nc).1, (nw_hd Nc).2⟩ (nw_cn ⟨kI _ _ (fun e => dDI e) (nw_hd (nw_tl Nc)).1, (nw_hd (nw_tl Nc)).2⟩ (nw_ch (nw_tl (nw_tl (nw_tl Nc))) kI oI1))) oD1 oL1
  have hit0 : IsRangeIter h₁ Ii a₀ (n : Int) 1 := up1 _ _ eI
  exact codeAny_compStart_list loop (wpAny_pyIter_rangeiter (s := { s with heap := h₁, toks := s.toks + ([] : List (Str × Value)).length }) hit0 loop)
theorem comp_range {elt iter : Expr} {x : Str} {px : Pos} {scope : Scope} {pos : Pos} {cl : List (Str × Addr)} {r : Addr} {a₀ b₀ : Int} {t₀ u₀ v₀ : Tok} {n : Nat} {m : Str → Option Value} {news : List (Addr × Obj)} (J : Nat → List Value → List (Addr × Obj) → Prop)
    (hh : A.handled = none) (hcell : ∀ y ∈ scope.names, y.2 ≠ .cell) (hkind : scope.kind = .function) (hx : scope.names.lookup x = some .local)
    (hr : IsRange s.heap r a₀ b₀ 1 t₀ u₀ v₀) (hsmall : Builtin.Range.small a₀ b₀ 1 = true) (hn : Builtin.Range.rangeSize a₀ b₀ 1 = (n : Int)) (hn2 : n ≤ 1000) (F : Fr g env.locals s.heap m) (N : News g env.locals s.heap news) (h0 : J 0 [] news)
    (turn : ∀ (I C D : Addr) (oL oI : Obj) (i : Nat) (t : Tok) (vals : List Value) (kD : Nat) (mc : Str → Option Value) (news₁ : List (Addr × Obj)) (h : Heap) (tk : Nat), i < n → J i vals news₁ → vals.length = i → Fr g C h (fun y => if y = x then some (.int (a₀ + (i : Nat)) t) else mc y) → News g C h ((env.locals, oL) :: (D, listOf vals.toArray kD) :: (I, oI) :: news₁) →
      Nq env.locals D → Nq env.locals I → Nq D I → Nq C env.locals → Off env.locals news₁ → Off D news₁ → Off I news₁ →
      wpAny (model prog w) A (eval elt (compEnvC scope cl C env)) (CEnd g env.locals C D I oL oI vals kD (J (i + 1)) { s with heap := h, toks := tk }) NoX { s with heap := h, toks := tk })
    (done : ∀ D h' tk' vals kD news', vals.length = n → J n vals news' → Fr g env.locals h' m → News g env.locals h' ((D, listOf vals.toArray kD) :: news') → Off D news' → Q (.ref D) { s with heap := h', toks := tk' }) :
    wpAny (model prog w) A (pyIter (.ref r)) (fun it s₂ => wpAny (model prog w) A (newList []) (fun acc s₃ => wpAny (model prog w) A (newFunctionEnv scope env.globals cl [] env.qual none .none (some env)) (fun cenv s₄ =>
      codeAny (model prog w) A (.compStart (.ListComp elt [⟨.Name x px, iter, [], 0⟩] scope pos) 0 it acc { cenv with scope := relabel scope env }) (compPost (model prog w) A NoX none Q acc cenv.locals) s₄) NoX s₃) NoX s₂) NoX s :=
  comp_rangeG J hh hcell hkind hx hr hsmall hn hn2 F N h0 turn (fun acc C => compPost (model prog w) A NoX none Q acc C) fun D C h' tk' vals kD news' mc hl hJ FL Fc N' o1 oC hCL hgC =>
    ⟨mc, Fc.ns, fun h'' hs => done D h'' tk' vals kD news' hl hJ (FL.change hs hCL hgC) (fun p hp => ⟨(hs.2 _ (oC p hp)).trans (N' p hp).1, (N' p hp).2⟩) o1⟩
/-- the same where the list goes to a name -/
theorem comp_rangeU {elt iter : Expr} {x : Str} {px : Pos} {scope : Scope} {pos : Pos} {cl : List (Str × Addr)} {r : Addr} {a₀ b₀ : Int} {t₀ u₀ v₀ : Tok} {n : Nat} {m : Str → Option Value} {news : List (Addr × Obj)} {y : Str} {py : Pos} (J : Nat → List Value → List (Addr × Obj) → Prop)
    (hh : A.handled = none) (hcell : ∀ y ∈ scope.names, y.2 ≠ .cell) (hkind : scope.kind = .function) (hx : scope.names.lookup x = some .local)
    (hr : IsRange s.heap r a₀ b₀ 1 t₀ u₀ v₀) (hsmall : Builtin.Range.small a₀ b₀ 1 = true) (hn : Builtin.Range.rangeSize a₀ b₀ 1 = (n : Int)) (hn2 : n ≤ 1000) (F : Fr g env.locals s.heap m) (N : News g env.locals s.heap news) (h0 : J 0 [] news)
    (turn : ∀ (I C D : Addr) (oL oI : Obj) (i : Nat) (t : Tok) (vals : List Value) (kD : Nat) (mc : Str → Option Value) (news₁ : List (Addr × Obj)) (h : Heap) (tk : Nat), i < n → J i vals news₁ → vals.length = i → Fr g C h (fun y => if y = x then some (.int (a₀ + (i : Nat)) t) else mc y) → News g C h ((env.locals, oL) :: (D, listOf vals.toArray kD) :: (I, oI) :: news₁) →
      Nq env.locals D → Nq env.locals I → Nq D I → Nq C env.locals → Off env.locals news₁ → Off D news₁ → Off I news₁ →
      wpAny (model prog w) A (eval elt (compEnvC scope cl C env)) (CEnd g env.locals C D I oL oI vals kD (J (i + 1)) { s with heap := h, toks := tk }) NoX { s with heap := h, toks := tk })
    (hy : env.kindOf y = some .local) (hp : (env.scope.kind == .class || (env.scope.kind == .module && env.locals != env.globals)) = false)
    {Q : Flow → Shared → Prop} (done : ∀ D h' tk' vals kD news', vals.length = n → J n vals news' → Fr g env.locals h' (fun z => if z = y then some (.ref D) else m z) → News g env.locals h' ((D, listOf vals.toArray kD) :: news') → Off D news' → Q .next { s with heap := h', toks := tk' }) :
    wpAny (model prog w) A (pyIter (.ref r)) (fun it s₂ => wpAny (model prog w) A (newList []) (fun acc s₃ => wpAny (model prog w) A (newFunctionEnv scope env.globals cl [] env.qual none .none (some env)) (fun cenv s₄ =>
      codeAny (model prog w) A (.compStart (.ListComp elt [⟨.Name x px, iter, [], 0⟩] scope pos) 0 it acc { cenv with scope := relabel scope env }) (compPost (model prog w) A NoX (some (assign (.Name y py) env)) (fun _ s' => Q .next s') acc cenv.locals) s₄) NoX s₃) NoX s₂) NoX s :=
  comp_rangeG J hh hcell hkind hx hr hsmall hn hn2 F N h0 turn (fun acc C => compPost (model prog w) A NoX (some (assign (.Name y py) env)) (fun _ s' => Q .next s') acc C) fun D C h' tk' vals kD news' mc hl hJ FL Fc N' o1 oC hCL hgC => by
    show wpAny _ A (assign (.Name y py) env (.ref D)) _ _ _
    refine wpAny_assign_Name (wpAny_storeName_local hy FL.ns (fun h₂ hn₂ hs₂ => ?_) hp)
    have hL₀ : g.get? env.locals = none := Heap.get?_none_of_le FL.above
    have F₂ : Fr g env.locals h₂ (fun z => if z = y then some (.ref D) else m z) := ⟨hn₂, fun b o e => hs₂.extBut b o (fun q => by rw [q, hL₀] at e; cases e) (FL.keep b o e), FL.above⟩
    exact ⟨mc, Fc.ns.sameBut hs₂ hCL, fun h'' hs => done D h'' _ vals kD news' hl hJ (F₂.change hs hCL hgC) (fun p hp => ⟨(hs.2 _ (oC p hp)).trans (hs₂.extBut _ _ (N' p hp).2.1 (N' p hp).1), (N' p hp).2⟩) o1⟩
theorem comp_enterU {prog : Program} {w : World} {A : Around} {s : Shared} {env : Env} {Q : Flow → Shared → Prop} {elt iter : Expr} {x y : Str} {px py : Pos} {scope : Scope} {pos spos : Pos} {cl : List (Str × Addr)}
    (hsw : swapsWith (.ListComp elt [⟨.Name x px, iter, [], 0⟩] scope pos) (some (.Name y py)) spos.line env = pure true)
    (hclos : closureFor scope env = pure cl) (hkind : scope.kind = .function) (hnames : ∀ x ∈ scope.names, x.2 = .local → scope.names.lookup x.1 = some .local)
    (h : wpAny (model prog w) A (eval iter env) (fun xv s₁ => wpAny (model prog w) A (pyIter xv) (fun it s₂ => wpAny (model prog w) A (newList []) (fun acc s₃ => wpAny (model prog w) A (newFunctionEnv scope env.globals cl [] env.qual none .none (some env)) (fun cenv s₄ =>
      codeAny (model prog w) A (.compStart (.ListComp elt [⟨.Name x px, iter, [], 0⟩] scope pos) 0 it acc { cenv with scope := relabel scope env }) (compPost (model prog w) A NoX (some (assign (.Name y py) env)) (fun _ s' => Q .next s') acc cenv.locals) s₄) NoX s₃) NoX s₂) NoX s₁) NoX s)
    (hs : ∀ x, foldedSetIterable iter env x = pure x := by intro _; rfl) : wpAny (model prog w) A (exec (.Assign [.Name y py] (.ListComp elt [⟨.Name x px, iter, [], 0⟩] scope pos) spos) env) Q NoX s := by
  rw [exec_Assign_Name_used _ _ _ _ hsw]
  refine wpAny_bind (wpAny_standAt (wpAny_bind ?_))
  show wpAny _ A (do let _ ← comprehension (.ListComp elt [⟨.Name x px, iter, [], 0⟩] scope pos) scope env _ (newList []) false (eval iter env) (some (assign (.Name y py) env))) _ _ s
  exact wpAny_bind (wpAny_mono (wpAny_comprehension_free (use := some (assign (.Name y py) env)) (Q := fun _ s' => Q .next s') rfl hs hclos hkind hnames h) (fun _ s' hq => wpAny_pure (wpAny_pure hq)) fun _ _ e => e)
end
end Mine

set_option Elab.async false
set_option linter.unusedVariables false
set_option linter.unusedSimpArgs false
set_option pp.maxSteps 3000
namespace Mine
set_option maxRecDepth 100000
set_option maxHeartbeats 4000000
set_option rowWalk.seconds 0
example : (PySem.Challenge.rw_pf0245_01 = PySem.Challenge.rw_pf0245_01) ∧ (kk = kk) := by
  k_fill
  exact ⟨rfl, rfl⟩
local macro_rules | `(tactic| walk_at $s:str) => `(tactic| k_extra $s)
local macro_rules | `(tactic| k_ne) => `(tactic| k_extra "k_ne")
local macro_rules | `(tactic| k_all) => `(tactic| k_extra "k_all")
local macro_rules | `(tactic| k_inst) => `(tactic| k_extra "k_inst")
local macro_rules | `(tactic| k_lt $h:ident) => `(tactic| (replace $h := NqL.of_lt $h; dsimp only [List.map] at $h:ident))
theorem words_of_Ma : True := by
  k_with "k_steps" => (repeat' (first | (k_unfold; (try dsimp only)) | (k_end; wrow_close) | (walk1; (try dsimp only)) | (dsimp only; walk1) | (leave1; walk_say "STEP leave1"; try dsimp only) | fail "no step"))
  k_with "m ent" => (((try simp only [List.forall_mem_cons]); repeat' (first | assumption | exact List.forall_mem_nil _ | apply And.intro)))
  k_with "m two" => (exact Mine.News.two (by k_asm) (by k_mem))
  k_with "m keep" => ((refine Ent.keep (by assumption) (by assumption) (by assumption) ?_; (try simp only [List.forall_mem_cons]); (repeat' apply And.intro) <;> first | exact List.forall_mem_nil _ | exact Or.inr (by k_mem) | exact Or.inl (by k_mem)))
  k_with "m get" => (exact News.get (by assumption) (by k_mem))
  k_with "m stay" => (exact Fr.keep (by k_asm))
  k_with "m upd1" => (((rename Keep _ _ _ => kzK); (rename (Heap.get? _ _ = some _) => kzM); (try dsimp only at kzK kzM); (obtain ⟨kzF, kzN⟩ := upd1 (by k_asm) (by k_asm) (by k_updF) kzK kzM); (try dsimp only at kzN); (clear kzK kzM); (try k_sweep)))
  k_with "side" => (first | k_is | exact rfl | assumption | omega)
  k_with "call ref" => ((k_here; k_dflt (first | (refine' call_cls (by k_asm) (by k_asm) (by k_asm) (by k_is) (by k_is) (by k_is) ?_; k_whole; intro kzx kzd kzh kzF kzN kz1 kz2; (have kzq := NqL.of_lt2 kz1 kz2); (dsimp only [List.map] at kzq); (k_lt kz1); (clear kz2); (try k_sweep)) | (refine' call_meth (by k_asm) (by k_mem) ?_; k_whole) | (refine wpAny_call ?_))))
  k_with "exec For Name Call cons nil" => ((k_here; refine stop ?_))
  k_with "exec For Name Name cons nil" => ((k_here; refine stop ?_))
  k_with "exec For Name Attribute cons nil" => ((k_here; refine stop ?_))
  k_with "exec For Name Subscript cons nil" => ((k_here; refine stop ?_))
  k_with "exec For Tuple Attribute cons nil" => ((k_here; refine stop ?_))
  k_with "exec For Tuple Name cons nil" => ((k_here; refine stop ?_))
  k_with "exec While Compare cons nil" => ((k_here; refine stop ?_))
  k_with "exec While Compare" => ((k_here; refine stop ?_))
  k_with "pyIter ref" => ((k_here; refine stop ?_))
  k_with "WhlIf" => (first | refine WhlIf.yes (decide_eq_true (by (first | lia | omega))) ?_ | refine WhlIf.no (decide_eq_false (by (first | lia | omega))) ?_ | refine whl_split (fun _ => ?_) (fun _ => ?_))
  k_with "m upd0" => (((rename Keep _ _ _ => kzK); (try dsimp only at kzK); (obtain ⟨kzF, kzN⟩ := upd0 (by k_asm) (by k_asm) kzK); (clear kzK); (try k_sweep)))
  k_with "m room" => (((try simp only [depth_under_make, depth_deeper, units_deeper, units_under_make, depth_in1, units_in1, w_make, u_make, Nat.add_assoc, Nat.reduceAdd]); (try dsimp only); first | exact roomN (by assumption) rfl | omega))
  k_with "call type:range" => ((k_here; (rename Fr _ _ _ _ => kzF); (rename News _ _ _ _ => kzN); first | (with_unfolding_all refine range1_rows kzF kzN ?_; intro _ _ _ _ _ kzR kzFF kzNN _; clear kzF kzN) | (with_unfolding_all refine range2_rows kzF kzN ?_; intro _ _ _ _ _ kzR kzFF kzNN _; clear kzF kzN)))
  k_with "m map" => ((funext kzY; repeat' (first | with_reducible rfl | (split <;> (try ((rename (_ = _) => kzH); subst kzH; first | rfl | contradiction))) | dsimp only)))
  k_with "m agm" => (((repeat' (first | (with_reducible exact List.mem_cons_self) | (with_reducible refine List.mem_cons_of_mem _ ?_))); done))
  k_with "m lk" => (((repeat' (first | (with_reducible exact lk_hit) | (with_reducible refine lk_miss (by decide +kernel) ?_))); first | done | k_dflt (exact rfl)))
  k_with "m ag" => (((repeat' (first | (with_reducible exact ag_rfl) | (with_reducible refine ag_both ?_) | (with_reducible refine ag_ls (by k_extra "m agm") ?_) | (with_reducible refine ag_rs (by k_extra "m agm") ?_) | (with_reducible refine ag_l (by k_extra "m lk") ?_) | (with_reducible refine ag_r (by k_extra "m lk") ?_))); done))
  k_with "m map" => ((refine ag_start ?_; k_extra "m ag"))
  k_with "m for" => (((rename Fr _ _ _ _ => kzG); (with_unfolding_all refine' For_invVF kzG (by exact rfl) (by exact rfl) ?_); k_whole))
  k_with "m turns" => (((rename Fr _ _ _ _ => kzG); (with_unfolding_all refine' For_turns kzG ?_); k_whole))
  k_with "m sub" => ((simp only [List.cons_append, List.nil_append, List.forall_mem_cons]; (repeat' apply And.intro) <;> first | exact List.forall_mem_nil _ | k_mem))
  k_with "m off" => (((try simp only [List.forall_mem_cons]); (repeat' apply And.intro) <;> first | exact List.forall_mem_nil _ | k_ne))
  k_with "wpC" => (refine wpC.of ?_)
  k_with "codeC" => (refine codeC.of ?_)
  k_with "wpC" => (((with_reducible show wpC _ _ (exec (Stmt.If _ _ _ _) _) _ _); k_dflt (refine c_If (wpC.of ?_))))
  k_with "wpC" => (((with_reducible show wpC _ _ (exec (Stmt.For _ _ _ _ _) _) _ _); k_dflt (refine stop ?_)))
  k_with "wpC" => (((with_reducible show wpC _ _ (exec (Stmt.While _ _ _ _) _) _ _); k_dflt (refine stop ?_)))
  k_with "wpC" => (((with_reducible show wpC _ _ (exec (Stmt.Expr (Expr.Call (Expr.Attribute _ _ _) _ _ _) _) _) _ _); k_dflt (refine c_Expr ?_)))
  k_with "wpC" => (((with_reducible show wpC _ _ (exec (Stmt.Expr (Expr.Call (Expr.Name _ _) _ _ _) _) _) _ _); k_dflt (refine c_Expr ?_)))
  k_with "wpC" => (((with_reducible show wpC _ _ (exec (Stmt.Return (some (Expr.Call (Expr.Attribute _ (Str.ofString "finish") _) _ _ _)) _) _) _ _); k_dflt (refine c_Return ?_)))
  k_with "wpC" => (((with_reducible show wpC _ _ (exec (Stmt.Assign [Expr.Attribute _ _ _] (Expr.Call (Expr.Name (Str.ofString "bytearray") _) _ _ _) _) _) _ _); k_dflt (refine c_AssignAttr ?_)))
  k_with "wpC" => (((with_reducible show wpC _ _ (exec (Stmt.Assign [Expr.Attribute _ _ _] (Expr.Call (Expr.Name (Str.ofString "BitWriter") _) _ _ _) _) _) _ _); k_dflt (refine c_AssignAttr ?_)))
  k_with "wpC" => (((with_reducible show wpC _ _ (exec (Stmt.Assign [Expr.Name _ _] (Expr.Call (Expr.Attribute _ (Str.ofString "finish") _) _ _ _) _) _) _ _); k_dflt (refine c_AssignName ?_)))
  k_with "wpC" => (((with_reducible show wpC _ _ (exec (Stmt.Assign [Expr.Name _ _] (Expr.Call (Expr.Name (Str.ofString "CodeSink") _) _ _ _) _) _) _ _); k_dflt (refine c_AssignName ?_)))
  k_with "wpC" => (((with_reducible show wpC _ _ (execs (_ :: _) _) _ _); k_dflt (refine c_cons ?_)))
  k_with "wpC" => (((with_reducible show wpC _ _ (execs [] _) _ _); k_dflt (refine c_nil ?_)))
  k_with "wpC" => (((with_reducible show wpC _ _ (eval (Expr.Call (Expr.Attribute _ _ _) _ _ _) _) _ _); k_dflt (refine c_CallMeth' ?_)))
  k_with "wpC" => (((with_reducible show wpC _ _ (eval (Expr.Call (Expr.Name _ _) _ _ _) _) _ _); k_dflt (refine c_CallName ?_)))
  k_with "wpC" => (((with_reducible show wpC _ _ (callWith _ (Value.ref _) _ _ _) _ _); k_dflt (first | (refine' c_callK (by k_asm) (by k_is) ?_; k_whole) | (refine' c_callK0 (by k_in) (by k_is) ?_; k_whole)); (try dsimp only [List.nil_append, List.cons_append])))
  k_with "wpC" => (((with_reducible show wpC _ _ (callWith _ (Value.builtin _) _ _ _) _ _); k_dflt (refine c_callB ?_)))
  k_with "wpC" => (((with_reducible show wpC _ _ (callWith _ (Value.type _) _ _ _) _ _); k_dflt (refine c_callT0 ?_)))
  k_with "wpC" => (((with_reducible show wpC _ _ (PySem.call (Value.builtin _) _ _) _ _); k_dflt (refine wpC_call ?_)))
  k_with "wpC" => (((with_reducible show wpC _ _ (PySem.call (Value.ref _) _ _) _ _); k_dflt (first | (refine' c_cls (by k_asm) (by k_asm) (by k_asm) (by k_is) (by k_is) (by k_is) ?_; k_whole; intro kzx kzd kzh kzF kzN kz1 kz2; (have kzq := NqL.of_lt2 kz1 kz2); (dsimp only [List.map] at kzq); (k_lt kz1); (clear kz2); (try k_sweep)) | (refine wpC_call ?_))))
  k_with "wpC" => (((with_reducible show wpC _ _ (PySem.call (Value.type "bytearray") [] []) _ _); k_dflt (refine' c_bytearray (by k_asm) (by k_asm) ?_); intro kzf kzh kzF kzN kz1; (try k_lt kz1); (try k_sweep)))
  k_with "codeC" => (((with_reducible show codeC _ _ (Code.call (Value.builtin "bytearray.append") _) _ _); k_dflt (refine' c_append (by k_asm) (by k_asm) (by k_updF) (by k_extra "m oct0") (by k_extra "m oct1") (by k_extra "m octz") ?_); intro kzh kzF kzN; (try dsimp only at kzN); (try k_sweep)))
  k_with "getMethod ref" => ((k_here; (with_reducible show wpAny _ _ (getMethod (Value.ref _) (Str.ofString "append") _) _ _ _); k_dflt (refine' ba_method (by k_asm) (by k_updF) ?_)))
  k_with "Back" => ((refine back ?_; (try dsimp only); (try refine And.intro rfl ?_)))
  k_with "m upd" => (((rename Keep _ _ _ => kzK); (try dsimp only at kzK); (have kzP := Pend.start (by k_asm) kzK); (repeat (replace kzP := Pend.step kzP (by k_updF) (by assumption))); (try dsimp only at kzP); (obtain ⟨kzF, kzN⟩ := Pend.fin kzP (by k_asm) kzK); (clear kzP kzK); (try k_sweep)))
  k_with "call type:bytes" => ((k_here; k_dflt (refine' bytes_ba (by k_extra "m get") (by k_extra "m baz") ?_); intro kzb kzt))
  k_with "m baz" => ((rw [byteArr_size]; simp only [sizeLine_eq]; (first | lia | omega)))
  k_with "m updN" => (((rename Keep _ _ _ => kzK); (rename (Heap.get? _ _ = none) => kzS); (try dsimp only at kzK kzS); (have kzP := Pend.start (by k_asm) kzK); (repeat (replace kzP := Pend.step kzP (by k_updF) (by assumption))); (try dsimp only at kzP); (obtain ⟨kzF, kzN⟩ := Pend.fin kzP (by k_asm) kzK); (have kzL := neN0 (by k_asm) kzS); (replace kzN := addN' (by k_asm) kzN kzS (by assumption)); (dsimp only [List.map] at kzL); (clear kzP kzK kzS); (try k_sweep)))
  k_with "m fresh" => (exact Ent.new (by assumption) (by k_asm) (by k_mem) (by k_extra "m off"))
  k_with "k_ne" => ((refine neN ?_; (try dsimp only); first | exact Nq.ne (by with_reducible assumption) | exact (Nq.ne (by with_reducible assumption)).symm | k_dflt (exact Nq.ne (NqL.h (by with_reducible assumption) _ (by k_extra "m am"))) | k_dflt (exact (Nq.ne (NqL.h (by with_reducible assumption) _ (by k_extra "m am"))).symm) | omega))
  k_with "m nq" => (first | (with_reducible assumption) | exact Nq.symm (by with_reducible assumption) | k_dflt (exact NqL.h (by with_reducible assumption) _ (by k_extra "m am")) | k_dflt (exact Nq.symm (NqL.h (by with_reducible assumption) _ (by k_extra "m am"))) | (refine Nq.of ?_; (try dsimp only); (first | lia | omega)))
  k_with "m am" => (k_mem)
  k_with "execs cons" => (first | (k_here; k_made; walk_at "execs cons") | (k_here; k_gentoks) | (with_reducible refine ec_cons ?_))
  k_with "EC" => ((with_reducible first | refine ec_next ?_ | refine ec_ret ?_ | refine ec_brk ?_ | refine ec_cont ?_))
  exact trivial
section
/-- what a call did to the heap: of S came S', all else stands -/
structure Step (X : Addr) (h h' : Heap) (S S' : List (Addr × Obj)) : Prop where
  keep : Keep (S.map (·.1)) h h'
  new : ∀ p ∈ S', h'.get? p.1 = some p.2 ∧ (p.1 ∈ S.map (·.1) ∨ h.get? p.1 = none)
  off : X ∉ S.map (·.1)
theorem Step.of {s : Shared} {g h' : Heap} {L X : Addr} {h₀ : Heap} {S S' news : List (Addr × Obj)} {m : Str → Option Value} (O : News h₀ X s.heap S) (En : Ent s g S) (F : Fr g L h' m) (N : News g L h' news) (sub : ∀ p ∈ S', p ∈ news) : Step X s.heap h' S S' where
  keep := fun b o hb ho => F.keep b o (En.rest b o hb ho)
  new := fun p hp => ⟨(N p (sub p hp)).1, (Classical.em (p.1 ∈ S.map (·.1))).imp id fun q => by
    cases z : s.heap.get? p.1 with
    | none => rfl
    | some o => have := En.rest p.1 o q z; rw [(N p (sub p hp)).2.2] at this; cases this⟩
  off := fun q => by
    obtain ⟨p, hp, e⟩ := List.mem_map.mp q
    exact (O p hp).2.1 e
/-- two lists of places have nothing in common -/
structure Apt (a b : List Nat) : Prop where
  h : ∀ x ∈ a, ∀ y ∈ b, Nq x y
/-- what of the ledger lies off S -/
inductive Sel (S : List (Addr × Obj)) : List (Addr × Obj) → List (Addr × Obj) → Prop
  | stop {l} : Sel S l []
  | all {l} : Apt (S.map (·.1)) (l.map (·.1)) → Sel S l l
  | drop {p l E} : p ∈ S → Sel S l E → Sel S (p :: l) E
  | keep {p l E} : NqL p.1 (S.map (·.1)) → Sel S l E → Sel S (p :: l) (p :: E)
theorem Sel.sub {S : List (Addr × Obj)} {l E : List (Addr × Obj)} (h : Sel S l E) : ∀ p ∈ E, p ∈ l ∧ p.1 ∉ S.map (·.1) := by
  induction h with
  | stop => exact fun p hp => nomatch hp
  | all a => exact fun p hp => ⟨hp, fun q => a.h _ q _ (List.mem_map_of_mem hp) rfl⟩
  | drop _ _ ih => exact fun p hp => ⟨.tail _ (ih p hp).1, (ih p hp).2⟩
  | keep n _ ih =>
    intro p hp
    rcases List.mem_cons.mp hp with rfl | hp
    · exact ⟨.head _, fun q => n.h _ q rfl⟩
    · exact ⟨.tail _ (ih p hp).1, (ih p hp).2⟩
theorem Step.upd {g h h' : Heap} {L : Addr} {m : Str → Option Value} {l S S' E : List (Addr × Obj)} (F : Fr g L h m) (N : News g L h l) (St : Step L h h' S S') (O : News g L h S) (Z : Sel S l E) :
    Fr g L h' m ∧ News g L h' (E ++ S') ∧ Apt (E.map (·.1)) (S'.map (·.1)) := by
  obtain ⟨oL, es, ep, hL, r⟩ := F.ns
  have gn : ∀ b o, g.get? b = some o → b ∉ S.map (·.1) := fun b o e q => by
    obtain ⟨p, hp, rfl⟩ := List.mem_map.mp q
    rw [(O p hp).2.2] at e; cases e
  refine ⟨⟨⟨oL, es, ep, St.keep _ _ St.off hL, r⟩, fun b o e => St.keep b o (gn b o e) (F.keep b o e), F.above⟩, fun p hp => ?_, ⟨fun x hx y hy e => ?_⟩⟩
  · rcases List.mem_append.mp hp with q | q
    · obtain ⟨q1, q2⟩ := Z.sub p q
      exact ⟨St.keep _ _ q2 (N p q1).1, (N p q1).2⟩
    · obtain ⟨e1, e2⟩ := St.new p q
      refine ⟨e1, ?_, ?_⟩
      · rcases e2 with e2 | e2
        · exact fun z => St.off (z ▸ e2)
        · exact fun z => by rw [z, hL] at e2; cases e2
      · rcases e2 with e2 | e2
        · obtain ⟨p', hp', e3⟩ := List.mem_map.mp e2
          rw [← e3]; exact (O p' hp').2.2
        · cases z : g.get? p.1 with
          | none => rfl
          | some o => have := F.keep _ o z; rw [e2] at this; cases this
  · obtain ⟨p, hp, rfl⟩ := List.mem_map.mp hx
    obtain ⟨q, hq, rfl⟩ := List.mem_map.mp hy
    obtain ⟨q1, q2⟩ := Z.sub p hp
    rcases (St.new q hq).2 with e2 | e2
    · exact q2 (e ▸ e2)
    · have := (N p q1).1
      rw [e, e2] at this; cases this
inductive NilT : List (Addr × Obj) → Prop
  | nil : NilT []
  | cons {p l} : NilT l → NilT (p :: l)
theorem Step.updB {g h h' : Heap} {L : Addr} {m : Str → Option Value} {l S S' E : List (Addr × Obj)} (F : Fr g L h m) (N : News g L h l) (St : Step L h h' S S') (_ : NilT S') (O : News g L h S) (Z : Sel S l E) :
    Fr g L h' m ∧ News g L h' (S' ++ E) ∧ Apt (E.map (·.1)) (S'.map (·.1)) :=
  let ⟨a, b, c⟩ := Step.upd F N St O Z
  ⟨a, fun p hp => b p (List.mem_append.mpr ((List.mem_append.mp hp).symm)), c⟩
theorem Step.updK {g h h' : Heap} {L : Addr} {m : Str → Option Value} {l S S' E : List (Addr × Obj)} {G : Prop} (F : Fr g L h m) (N : News g L h l) (St : Step L h h' S S') (O : News g L h S) (Z : Sel S l E) (k : Fr g L h' m → News g L h' (E ++ S') → Apt (E.map (·.1)) (S'.map (·.1)) → G) : G := let ⟨a, b, c⟩ := Step.upd F N St O Z; k a b c
theorem Step.updBK {g h h' : Heap} {L : Addr} {m : Str → Option Value} {l S S' E : List (Addr × Obj)} {G : Prop} (F : Fr g L h m) (N : News g L h l) (St : Step L h h' S S') (n : NilT S') (O : News g L h S) (Z : Sel S l E) (k : Fr g L h' m → News g L h' (S' ++ E) → Apt (E.map (·.1)) (S'.map (·.1)) → G) : G := let ⟨a, b, c⟩ := Step.updB F N St n O Z; k a b c
theorem News.sub {g h : Heap} {L : Addr} {l S : List (Addr × Obj)} (N : News g L h l) (hs : ∀ p ∈ S, p ∈ l) : News g L h S := fun p hp => N p (hs p hp)
theorem News.ent {g h : Heap} {L : Addr} {S : List (Addr × Obj)} (N : News g L h S) : ∀ p ∈ S, h.get? p.1 = some p.2 ∧ g.get? p.1 = none := fun p hp => ⟨(N p hp).1, (N p hp).2.2⟩
theorem sub_nil {l : List (Addr × Obj)} : ∀ p ∈ ([] : List (Addr × Obj)), p ∈ l := fun _ h => nomatch h
theorem sub_cons {p : Addr × Obj} {S l : List (Addr × Obj)} (a : p ∈ l) (b : ∀ p ∈ S, p ∈ l) : ∀ q ∈ p :: S, q ∈ l := List.forall_mem_cons.mpr ⟨a, b⟩
theorem sub_refl {l : List (Addr × Obj)} : ∀ p ∈ l, p ∈ l := fun _ h => h
theorem sub_tail {p : Addr × Obj} {S l : List (Addr × Obj)} (b : ∀ p ∈ S, p ∈ l) : ∀ q ∈ S, q ∈ p :: l := fun q h => .tail _ (b q h)
theorem NqL.nil {d : Nat} : NqL d [] := ⟨fun _ h => nomatch h⟩
theorem NqL.cons {d a : Nat} {l : List Nat} (n : Nq a d) (t : NqL d l) : NqL d (a :: l) := ⟨List.forall_mem_cons.mpr ⟨n, t.h⟩⟩
theorem NqL.tl {d a : Nat} {l : List Nat} (t : NqL d (a :: l)) : NqL d l := ⟨fun x h => t.h x (.tail _ h)⟩
theorem NqL.hd {d a : Nat} {l : List Nat} (t : NqL d (a :: l)) : Nq a d := t.h a (.head _)
theorem Apt.l {a b : List Nat} {x : Nat} (A : Apt a b) (h : x ∈ a) : NqL x b := ⟨fun y hy => (A.h x h y hy).symm⟩
theorem Apt.r {a b : List Nat} {y : Nat} (A : Apt a b) (h : y ∈ b) : NqL y a := ⟨fun x hx => A.h x hx y h⟩
theorem nq_cls {g h : Heap} {L a b : Addr} {oa ob : Obj} {news : List (Addr × Obj)} (N : News g L h news) (ha : (a, oa) ∈ news) (hb : (b, ob) ∈ news) (hc : decide (oa.cls = ob.cls) = false) : Nq a b := ne_cls (N _ ha).1 (N _ hb).1 hc
theorem nq_base {g h : Heap} {L a b : Addr} {oa ob : Obj} {news : List (Addr × Obj)} (N : News g L h news) (hb : (b, ob) ∈ news) (e : g.get? a = some oa) : Nq a b := fun q => by
  subst q; rw [(N _ hb).2.2] at e; cases e
theorem nql_base {g h : Heap} {L a : Addr} {oa : Obj} {news S : List (Addr × Obj)} (N : News g L h news) (hs : ∀ p ∈ S, p ∈ news) (e : g.get? a = some oa) : NqL a (S.map (·.1)) := ⟨fun x hx q => by
  obtain ⟨p, hp, rfl⟩ := List.mem_map.mp hx
  rw [← q, (N p (hs p hp)).2.2] at e; cases e⟩
theorem Apt.nil {b : List Nat} : Apt [] b := ⟨fun _ h => nomatch h⟩
theorem Apt.cons {a : Nat} {l b : List Nat} (n : NqL a b) (t : Apt l b) : Apt (a :: l) b := ⟨List.forall_mem_cons.mpr ⟨fun y hy => (n.h y hy).symm, t.h⟩⟩
theorem Ent.ro {s : Shared} {g : Heap} {S : List (Addr × Obj)} {a : Addr} {o : Obj} (En : Ent s g S) (n : NqL a (S.map (·.1))) (e : s.heap.get? a = some o) : g.get? a = some o := En.rest a o (fun q => n.h _ q rfl) e
theorem NqL.ofne {d : Nat} {l : List (Addr × Obj)} (h : ∀ p ∈ l, p.1 ≠ d) : NqL d (l.map (·.1)) := ⟨fun a ha => by
  obtain ⟨p, hp, rfl⟩ := List.mem_map.mp ha
  exact h p hp⟩
theorem all_ne {d : Nat} {l : List (Addr × Obj)} (n : NqL d (l.map (·.1))) : ∀ p ∈ l, p.1 ≠ d := fun p hp => n.h _ (List.mem_map_of_mem hp)
theorem lenC {n m : Nat} (h : n ≤ m) {k : Nat} (e : m ≤ k := by decide) : n ≤ k := Nat.le_trans h e
theorem Fr.cast {g h : Heap} {L : Addr} {m m' : Str → Option Value} (e : m = m') (F : Fr g L h m) : Fr g L h m' := e ▸ F
theorem Fr.castR {g h : Heap} {L : Addr} {m m' : Str → Option Value} {x : Str} {v : Option Value} (e : m = m') (F : Fr g L h (fun y => if y = x then v else m y)) : Fr g L h (fun y => if y = x then v else m' y) := e ▸ F
theorem News.cast {g h : Heap} {L : Addr} {l l' : List (Addr × Obj)} (e : l = l') (N : News g L h l) : News g L h l' := e ▸ N
theorem News.castT {g h : Heap} {L : Addr} {p : Addr × Obj} {l l' : List (Addr × Obj)} (e : l = l') (N : News g L h (p :: l)) : News g L h (p :: l') := e ▸ N
section
variable {prog : Program} {w : World} {M : Model} {A : Around} {E : Value → Shared → Prop} {h : Heap} {gs : Array GenState} {dr : Drawn} {tk : Nat} {os : OsState} {env : Env} {a b : Int} {t u : Tok} {Q : Value → Shared → Prop}
theorem k_const {i : Int} {k pos} (hq : Q (.int i tk) ⟨h, gs, dr, tk + 1, os⟩) : wpAny M A (eval (.Constant (.int i) k pos) env) Q E ⟨h, gs, dr, tk, os⟩ := wpAny_Constant_int hq
theorem k_add (hq : Q (.int (a + b) tk) ⟨h, gs, dr, tk + 1, os⟩) : wpAny (model prog w) A (binaryOp .Add (.int a t) (.int b u)) Q E ⟨h, gs, dr, tk, os⟩ := add_int hq
theorem k_sub (hq : Q (.int (a - b) tk) ⟨h, gs, dr, tk + 1, os⟩) : wpAny (model prog w) A (binaryOp .Sub (.int a t) (.int b u)) Q E ⟨h, gs, dr, tk, os⟩ := sub_int hq
theorem k_mul (hq : Q (.int (a * b) tk) ⟨h, gs, dr, tk + 1, os⟩) (hm : IntMulOk a b) : wpAny (model prog w) A (binaryOp .Mult (.int a t) (.int b u)) Q E ⟨h, gs, dr, tk, os⟩ := mul_int hq hm
end
end

theorem words_of_Bd : True := by
  k_with "m sb" => (first | exact sub_nil | exact sub_refl | ((fail_if_success (refine' sub_cons ?_ ?_)); exact sub_tail (by k_extra "m sb")) | exact sub_cons (by k_mem) (by k_extra "m sb"))
  k_with "m own" => (exact News.sub (by k_asm) (by k_extra "m sb"))
  k_with "m step" => (exact Step.of (by with_reducible assumption) (by with_reducible assumption) (by with_reducible assumption) (by with_reducible assumption) (by k_extra "m sb"))
  k_with "m sel" => (first | ((fail_if_success (refine' Sel.drop ?_ ?_)); exact Sel.stop) | ((fail_if_success (exact Sel.drop (by k_mem) Sel.stop)); exact Sel.keep (by k_extra "m nqs") (by k_extra "m sel")) | exact Sel.drop (by k_mem) (by k_extra "m sel"))
  k_with "m selB" => (first | ((fail_if_success (refine' Sel.drop ?_ ?_)); first | exact Sel.all (by (try dsimp only [List.map]); k_extra "m apt") | exact Sel.stop) | ((fail_if_success (exact Sel.drop (by k_mem) Sel.stop)); exact Sel.keep (by k_extra "m nqs") (by k_extra "m selB")) | exact Sel.drop (by k_mem) (by k_extra "m selB"))
  k_with "m nilt" => (first | exact NilT.nil | exact NilT.cons (by k_extra "m nilt"))
  k_with "m nqt" => (first | (with_reducible assumption) | exact NqL.tl (by with_reducible assumption) | exact NqL.tl (NqL.tl (by with_reducible assumption)) | exact NqL.tl (NqL.tl (NqL.tl (by with_reducible assumption))) | exact NqL.tl (NqL.tl (NqL.tl (NqL.tl (by with_reducible assumption)))) | exact NqL.tl (NqL.tl (NqL.tl (NqL.tl (NqL.tl (by with_reducible assumption))))) | exact NqL.tl (NqL.tl (NqL.tl (NqL.tl (NqL.tl (NqL.tl (by with_reducible assumption)))))) | exact Apt.l (by with_reducible assumption) (by k_mem) | exact nql_base (by k_asm) (by k_extra "m sb") (by with_reducible assumption) | exact NqL.tl (Apt.l (by with_reducible assumption) (by k_mem)) | exact NqL.tl (NqL.tl (Apt.l (by with_reducible assumption) (by k_mem))) | exact NqL.tl (NqL.tl (NqL.tl (Apt.l (by with_reducible assumption) (by k_mem)))))
  k_with "m nqs" => (((try dsimp only [List.map]); first | exact NqL.nil | k_extra "m nqt" | exact NqL.cons (by k_extra "m nq") (by k_extra "m nqs")))
  k_with "m upS" => ((k_dflt ((rename Step _ _ _ _ _ => kzS); (try dsimp only at kzS); (first | refine Step.updBK (by k_asm) (by k_asm) kzS (by k_extra "m nilt") (by k_extra "m own") (by k_extra "m selB") ?_ | refine Step.updK (by k_asm) (by k_asm) kzS (by k_extra "m own") (by k_extra "m sel") ?_); (intro kzF kzN kzL); (dsimp only [List.map, List.nil_append, List.cons_append] at kzN kzL); (clear kzS)); (try k_sweep)))
  k_with "k_all" => (exact all_ne (by k_extra "m nqs"))
  k_with "eval Constant int" => (refine k_const ?_)
  k_with "binaryOp Add int int" => (with_reducible refine k_add ?_)
  k_with "binaryOp Sub int int" => (with_reducible refine k_sub ?_)
  k_with "m apt" => (first | (with_reducible assumption) | exact Apt.nil | exact Apt.cons (by k_extra "m nqt") (by k_extra "m apt"))
  k_with "m nq" => (k_dflt (first | (with_reducible assumption) | exact Nq.symm (by with_reducible assumption) | exact NqL.h (by with_reducible assumption) _ (by k_extra "m am") | exact Nq.symm (NqL.h (by with_reducible assumption) _ (by k_extra "m am")) | exact nq_cls (by k_asm) (by k_mem) (by k_mem) (by rfl) | exact nq_base (by k_asm) (by k_mem) (by with_reducible assumption) | exact Nq.symm (nq_base (by k_asm) (by k_mem) (by with_reducible assumption)) | exact Apt.h (by with_reducible assumption) _ (by k_extra "m am") _ (by k_extra "m am") | exact Nq.symm (Apt.h (by with_reducible assumption) _ (by k_extra "m am") _ (by k_extra "m am"))))
  k_with "m rd" => (k_dflt (first | (with_reducible assumption) | exact Fr.keep (by k_asm) _ _ (by with_reducible assumption) | exact News.get (by k_asm) (by k_mem)))
  k_with "k_ne" => (exact Nq.ne (by (try dsimp only); k_extra "m nq"))
  k_with "m off" => (exact all_ne (by k_extra "m nqs"))
  exact trivial
section
namespace G_Bi
theorem in_Bi : True := trivial
end G_Bi
open G_Bi
theorem shr3_nonneg {a : Int} (h : 0 ≤ a) : 0 ≤ a.fdiv (2 ^ Int.toNat 3) := by
  show 0 ≤ a.fdiv 8
  rw [Int.fdiv_eq_ediv_of_nonneg _ (by decide)]; (first | lia | omega)
theorem shr3_lt {a n : Int} (h0 : 0 ≤ a) (h : a < 8 * n) : a.fdiv (2 ^ Int.toNat 3) < n := by
  show a.fdiv 8 < n
  rw [Int.fdiv_eq_ediv_of_nonneg _ (by decide)]; (first | lia | omega)
theorem sub7_nonneg (a : Int) : 0 ≤ 7 - Builtin.bitAnd a 7 := by rw [and7]; (first | lia | omega)
theorem bit_is {ks : List Int} {p : Nat} {c : Int} {rest : List Int} (h : (octs ks).drop p = c :: rest) :
    Builtin.bitAnd ((ks.getD ((p : Int).fdiv (2 ^ Int.toNat 3)).toNat 0).fdiv (2 ^ (7 - Builtin.bitAnd (p : Int) 7).toNat)) 1 = c := by
  have e1 : ((p : Int).fdiv (2 ^ Int.toNat 3)).toNat = p / 8 := by
    show ((p : Int).fdiv 8).toNat = _
    rw [Int.fdiv_eq_ediv_of_nonneg _ (by decide)]; (first | lia | omega)
  have e2 : (7 - Builtin.bitAnd (p : Int) 7).toNat = 7 - p % 8 := by rw [and7]; (first | lia | omega)
  rw [e1, e2, and1, Int.fdiv_eq_ediv_of_nonneg _ (Int.le_of_lt (p2 _))]
  exact (octs_head h).2.1
theorem line_1 : True := by
  k_with "subscriptTail" => (guard_expr in_Bi =~ in_Bi; (k_here; (with_reducible show wpAny _ _ (subscriptTail _ _ (Value.bytes _ _) (Value.int _ _)) _ _ _); (refine KBw.item_K (by kba_ints) (by kba_size) (by exact shr3_nonneg (by assumption)) (by exact shr3_lt (by assumption) (by assumption)) ?_); intro _ _ kzlo kzhi))
  exact trivial
theorem line_2 : True := by
  k_with "binaryOp RShift int int" => (guard_expr in_Bi =~ in_Bi; (k_here; (with_reducible refine rshift_int (sub7_nonneg _) ?_)))
  exact trivial
abbrev rdD (w : World) (b : Array UInt8) (tb : Tok) (a : Int) (ta k1 k2 : Tok) : Obj := dictOf [⟨PyData.keyHash w.params "source", .str "source" k1, .bytes b tb⟩, ⟨PyData.keyHash w.params "at", .str "at" k2, .int a ta⟩] 2
section
variable {w : World} {dp un : Nat} {fr : Option (List Env)} {gd : Option (List Code)} {h₀ : Heap} {s : Shared} {R : Result → Shared → Prop}
theorem bit (C : Stc w h₀) (k : h₀.StaysIn s.heap)
  {x d : Addr} {b : Array UInt8} {ks : List Int} {tb ta k1 k2 : Tok} {p : Nat} {c : Int} {rest : List Int} (hd : dp + 1 < recursionLimit) (hu : un + 8 < cLine)
  (hx : s.heap.get? x = some (instObj 302 d) ∧ h₀.get? x = none) (hdd : s.heap.get? d = some (rdD w b tb p ta k1 k2) ∧ h₀.get? d = none)
  (hks : KBw.bInts b = ks) (hsz : ks.length ≤ 100000) (hc : (octs ks).drop p = c :: rest)
  (ret : ∀ (t t' : Tok) (h' : Heap) (tk' : Nat), Keep [d] s.heap h' → h'.get? d = some (rdD w b tb ((p + 1 : Nat) : Int) t' k1 k2) → R (.ok (.ret (.int c t))) { s with heap := h', toks := tk' }) :
  codeAny (model pw w) (ar dp fr gd un) (.call (.ref 292) ⟨[.ref x], []⟩) R s := by
  refine' begin [(x, instObj 302 d), (d, rdD w b tb p ta k1 k2)] [(Str.ofString "self", .ref x)] (st := sub 18 2) C k ?hS ?ho ?he ?hcd ?hroom ?hbind ?hsc ?_
  case hS => k_extra "m ent"
  case ho => k_is
  case he => exact rfl
  case hcd => k_is
  case hroom => (first | lia | omega)
  case hbind => exact rfl
  case hsc => exact rfl
  have hxd := neN (show x ≠ d by intro e; subst e; rw [hx.1] at hdd; cases hdd.1)
  have hbi := bit_is hc
  have ha2 : (p : Int) < 8 * (ks.length : Int) := by have := (octs_head hc).1; (first | lia | omega)
  have ha : (0 : Int) ≤ p := Int.natCast_nonneg p
  intro g L h₁ mean mg mb tk F N X T En C' K
  (try k_fold)
  k_extra "k_steps"
  rw [hbi]
  exact ret _ _ _ _ (by k_extra "m keep") (by k_extra "m get")
end
end

theorem words_of_Bi : True := by
  k_with "codeAny" => (((with_reducible show codeAny _ _ (Code.call (Value.ref 292) _) _ _); k_dflt (refine' bit (by assumption) (by k_extra "m stay") (by k_extra "m room") (by k_extra "m room") (by k_extra "m two") (by k_extra "m two") (by assumption) (by assumption) (by assumption) ?_); intros; k_extra "m upd1"))
  exact trivial
section
namespace G_Bs
theorem in_Bs : True := trivial
end G_Bs
open G_Bs
theorem fig_turn {F l rest : List Int} {p i : Nat} (hc : (octs F).drop p = l ++ rest) (hi : i < l.length) : ∃ c rest', (octs F).drop (p + i) = c :: rest' ∧ val (l.take (i + 1)) = val (l.take i) * 2 + c := by
  refine ⟨l[i], l.drop (i + 1) ++ rest, ?_, ?_⟩
  · rw [← List.drop_drop, hc, List.drop_append_of_le_length (by (first | lia | omega)), List.drop_eq_getElem_cons hi]; rfl
  · rw [List.take_add_one, List.getElem?_eq_getElem hi]; exact val_snoc _ _
section
variable {w : World} {dp un : Nat} {fr : Option (List Env)} {gd : Option (List Code)} {h₀ : Heap} {s : Shared} {R : Result → Shared → Prop}
theorem left (C : Stc w h₀) (k : h₀.StaysIn s.heap)
  {x d : Addr} {b : Array UInt8} {ks : List Int} {tb ta k1 k2 : Tok} {p : Nat} (hd : dp + 1 < recursionLimit) (hu : un + 8 < cLine)
  (hx : s.heap.get? x = some (instObj 302 d) ∧ h₀.get? x = none) (hdd : s.heap.get? d = some (rdD w b tb p ta k1 k2) ∧ h₀.get? d = none)
  (hks : KBw.bInts b = ks) (hsz : ks.length ≤ 100000)
  (ret : ∀ (t : Tok) (h' : Heap) (tk' : Nat), Keep [] s.heap h' → R (.ok (.ret (.int (8 * (ks.length : Int) - p) t))) { s with heap := h', toks := tk' }) :
  codeAny (model pw w) (ar dp fr gd un) (.call (.ref 285) ⟨[.ref x], []⟩) R s := by
  refine' begin [(x, instObj 302 d), (d, rdD w b tb p ta k1 k2)] [(Str.ofString "self", .ref x)] (st := sub 18 1) C k ?hS ?ho ?he ?hcd ?hroom ?hbind ?hsc ?_
  case hS => k_extra "m ent"
  case ho => k_is
  case he => exact rfl
  case hcd => k_is
  case hroom => (first | lia | omega)
  case hbind => exact rfl
  case hsc => exact rfl
  have hxd := neN (show x ≠ d by intro e; subst e; rw [hx.1] at hdd; cases hdd.1)
  intro g L h₁ mean mg mb tk F N X T En C' K
  (try k_fold)
  k_extra "k_steps"
  exact ret _ _ _ (by k_extra "m keep")
theorem line_3 : True := by
  k_with "codeAny" => (guard_expr in_Bs =~ in_Bs; ((with_reducible show codeAny _ _ (Code.call (Value.ref 285) _) _ _); k_dflt (refine' left (by assumption) (by k_extra "m stay") (by k_extra "m room") (by k_extra "m room") (by k_extra "m two") (by k_extra "m two") (by assumption) (by assumption) ?_); intros; k_extra "m upd0"))
  exact trivial
theorem bits (C : Stc w h₀) (k : h₀.StaysIn s.heap)
  {x d : Addr} {b : Array UInt8} {ks : List Int} {tb ta k1 k2 tn : Tok} {p n : Nat} {v : Int} {rest : List Int} (hd : dp + 2 < recursionLimit) (hu : un + 20 < cLine)
  (hx : s.heap.get? x = some (instObj 302 d) ∧ h₀.get? x = none) (hdd : s.heap.get? d = some (rdD w b tb p ta k1 k2) ∧ h₀.get? d = none)
  (hks : KBw.bInts b = ks) (hsz : ks.length ≤ 100000) (hc : (octs ks).drop p = fig v n ++ rest) (h0 : 0 ≤ v) (h1 : v < 2 ^ n) (hn : n ≤ 16) (hp : p ≤ 8 * ks.length)
  (ret : ∀ (t t' : Tok) (h' : Heap) (tk' : Nat), Keep [d] s.heap h' → h'.get? d = some (rdD w b tb ((p + n : Nat) : Int) t' k1 k2) → R (.ok (.ret (.int v t))) { s with heap := h', toks := tk' }) :
  codeAny (model pw w) (ar dp fr gd un) (.call (.ref 299) ⟨[.ref x, .int n tn], []⟩) R s := by
  refine' begin [(x, instObj 302 d), (d, rdD w b tb p ta k1 k2)] [(Str.ofString "self", .ref x), (Str.ofString "size", .int n tn)] (st := sub 18 3) C k ?hS ?ho ?he ?hcd ?hroom ?hbind ?hsc ?_
  case hS => k_extra "m ent"
  case ho => k_is
  case he => exact rfl
  case hcd => k_is
  case hroom => (first | lia | omega)
  case hbind => exact rfl
  case hsc => exact rfl
  have hxd := neN (show x ≠ d by intro e; subst e; rw [hx.1] at hdd; cases hdd.1)
  have hlen : (n : Int) ≤ 8 * (ks.length : Int) - p := by
    have := congrArg List.length hc
    rw [List.length_drop, octs_length, List.length_append, fig_length] at this
    (first | lia | omega)
  intro g L h₁ mean mg mb tk F N X T En C' K
  (try k_fold)
  k_extra "k_steps"
  k_extra "m for"
  k_extra "k_steps"
  refine' for_range (fun i m news => E3c2 (fun u tf td => m = (fun y => if y = Str.ofString "found" then some (.int (val ((fig v n).take i)) tf) else if y = Str.ofString "turn" then u else List.lookup y [(Str.ofString "self", Value.ref x), (Str.ofString "size", Value.int n tn)].reverse)) (fun u tf td => news = [(x, instObj 302 d), (d, rdD w b tb ((p + i : Nat) : Int) td k1 k2)])) (by rfl) ?hr (rsmall (by (first | lia | omega))) (rsize n) (by assumption) (by assumption) ?h0 ?turn ?done
  case hr => assumption
  case h0 => exact ⟨none, _, _, by k_extra "m map", rfl⟩
  case turn =>
    rintro I i t m news h tk o lI hi ⟨u, tf, td, rfl, rfl⟩ hI F' N'
    obtain ⟨c, rest', hc', hv'⟩ := fig_turn hc (i := i) (by rw [fig_length]; exact hi)
    k_lt lI
    (try k_fold)
    k_extra "k_steps"


    refine' TEnd.next ?F ?N [(x, instObj 302 d), (d, rdD w b tb ((p + (i + 1) : Nat) : Int) _ k1 k2)] ?s ?o ⟨_, _, _, ?map, rfl⟩
    case F => assumption
    case N => assumption
    case s => k_extra "m sub"
    case o => k_extra "m off"
    case map => rw [hv']; k_extra "m map"
  case done =>
    rintro m news h tk ⟨u, tf, td, rfl, rfl⟩ F' N'
    k_extra "k_steps"
    rw [show (fig v n).take n = fig v n from List.take_of_length_le (by rw [fig_length]; exact Nat.le_refl _), val_fig' h0 h1]
    exact ret _ _ _ _ (by k_extra "m keep") (by k_extra "m get")
end
end

theorem words_of_Bs : True := by
  k_with "codeAny" => (((with_reducible show codeAny _ _ (Code.call (Value.ref 285) _) _ _); k_dflt (refine' left (by assumption) (by k_extra "m stay") (by k_extra "m room") (by k_extra "m room") (by k_extra "m two") (by k_extra "m two") (by assumption) (by assumption) ?_); intros; k_extra "m upd0"))
  k_with "codeAny" => (((with_reducible show codeAny _ _ (Code.call (Value.ref 299) _) _ _); k_dflt (refine' bits (by assumption) (by k_extra "m stay") (by k_extra "m room") (by k_extra "m room") (by k_extra "m two") (by k_extra "m two") (by assumption) (by assumption) (by assumption) (by (first | lia | omega)) (by assumption) (by (first | lia | omega)) (by (first | lia | omega)) ?_); intros; k_extra "m upd1"))
  exact trivial
section
namespace G_B2
theorem in_B2 : True := trivial
end G_B2
open G_B2
theorem and_apart {q v n : Nat} (h : v < 2 ^ n) : (2 ^ n * q) &&& v = 0 := by
  refine Nat.eq_of_testBit_eq fun i => ?_
  rw [Nat.testBit_and, Nat.zero_testBit]
  by_cases hi : i < n
  · rw [Nat.testBit_two_pow_mul, decide_eq_false (Nat.not_le.mpr hi)]; rfl
  · rw [Nat.testBit_lt_two_pow (Nat.lt_of_lt_of_le h (Nat.pow_le_pow_right (by decide) (Nat.not_lt.mp hi))), Bool.and_false]
theorem or_join {r v : Int} {n : Nat} (hr : 0 ≤ r) (h0 : 0 ≤ v) (h1 : v < 2 ^ n) : Builtin.bitOr (r * 2 ^ n) v = r * 2 ^ n + v := by
  have hp := p2 n
  have hx : 0 ≤ r * 2 ^ n := Int.mul_nonneg hr (Int.le_of_lt hp)
  have e1 : (r * 2 ^ n).toNat = 2 ^ n * r.toNat := by
    have h2 : r * 2 ^ n = ((2 ^ n * r.toNat : Nat) : Int) := by
      rw [Int.natCast_mul, kbt_cast, Int.toNat_of_nonneg hr, Int.mul_comm]
    rw [h2]; rfl
  have h3 : v.toNat < 2 ^ n := by
    have := kbt_cast n
    (first | lia | omega)
  rw [bitOr_and, bitAnd_pp hx h0, e1, and_apart h3]
  (first | lia | omega)
/-- the writer holds the figures B -/
structure WS (F : List Int) (r : Int) (z : Nat) (B : List Int) : Prop where
  oct : Oct F
  r0 : 0 ≤ r
  r1 : r < 2 ^ z
  is : octs F ++ fig r z = B
theorem WS.put {F : List Int} {r v : Int} {z n : Nat} {B : List Int} (W : WS F r z B) (h0 : 0 ≤ v) (h1 : v < 2 ^ n) : WS F (Builtin.bitOr (r * 2 ^ n) v) (z + n) (B ++ fig v n) := by
  rw [or_join W.r0 h0 h1]
  have hp := p2 n
  refine ⟨W.oct, ?_, ?_, ?_⟩
  · have := Int.mul_nonneg W.r0 (Int.le_of_lt hp); (first | lia | omega)
  · have h2 : (2 : Int) ^ (z + n) = 2 ^ z * 2 ^ n := Int.pow_add _ _ _
    have h3 : r + 1 ≤ 2 ^ z := W.r1
    have h4 : (r + 1) * 2 ^ n ≤ 2 ^ z * 2 ^ n := Int.mul_le_mul_of_nonneg_right h3 (Int.le_of_lt hp)
    rw [Int.add_mul, Int.one_mul] at h4
    (first | lia | omega)
  · rw [fig_join h0 h1, ← List.append_assoc, W.is]
theorem WS.len {F : List Int} {r : Int} {z : Nat} {B : List Int} (W : WS F r z B) : 8 * F.length + z = B.length := by
  rw [← W.is, List.length_append, octs_length, fig_length]
theorem WS.byte {F : List Int} {r : Int} {z : Nat} {B : List Int} (W : WS F r (z + 8) B) : 0 ≤ r.fdiv (2 ^ z) ∧ r.fdiv (2 ^ z) < 256 := by
  have hp := p2 z
  rw [Int.fdiv_eq_ediv_of_nonneg _ (Int.le_of_lt hp)]
  refine ⟨Int.ediv_nonneg W.r0 (Int.le_of_lt hp), Int.ediv_lt_of_lt_mul hp ?_⟩
  have h1 := W.r1
  have h2 : (2 : Int) ^ (z + 8) = 2 ^ z * 2 ^ 8 := Int.pow_add _ _ _
  have h3 : (2 : Int) ^ 8 = 256 := rfl
  rw [h2, h3, Int.mul_comm] at h1
  exact h1
theorem WS.turn {F : List Int} {r : Int} {z : Nat} {B : List Int} (W : WS F r (z + 8) B) : WS (F ++ [r.fdiv (2 ^ z)]) (Builtin.bitAnd r (1 * 2 ^ z - 1)) z B := by
  have hp := p2 z
  have hb := W.byte
  rw [Int.one_mul, kbt_mask]
  refine ⟨?_, Int.emod_nonneg _ (Int.ne_of_gt hp), Int.emod_lt_of_pos _ hp, ?_⟩
  · intro c hc
    rcases List.mem_append.mp hc with hc | hc
    · exact W.oct c hc
    · rw [List.mem_singleton.mp hc]; exact hb
  · rw [octs_snoc, List.append_assoc, fig_mod, Int.fdiv_eq_ediv_of_nonneg _ (Int.le_of_lt hp), ← fig_append, Nat.add_comm]
    exact W.is
abbrev wrD (w : World) (f : Addr) (r z : Int) (tr tz k1 k2 k3 : Tok) : Obj := dictOf [⟨PyData.keyHash w.params "full", .str "full" k1, .ref f⟩, ⟨PyData.keyHash w.params "rest", .str "rest" k2, .int r tr⟩, ⟨PyData.keyHash w.params "size", .str "size" k3, .int z tz⟩] 3
abbrev baF (F : List Int) : Obj := baObj (byteArr F)
theorem castsub {z : Nat} (h : z ≤ 8) : (8 : Int) - (z : Int) = ((8 - z : Nat) : Int) := by (first | lia | omega)
theorem ones_fig (n : Nat) : fig (1 * 2 ^ n - 1) n = List.replicate n 1 := by
  induction n with
  | zero => rfl
  | succ n ih =>
    have hp := p2 n
    have e : (1 : Int) * 2 ^ (n + 1) - 1 = 1 * 2 ^ n + (1 * 2 ^ n - 1) := by rw [Int.pow_succ]; (first | lia | omega)
    rw [List.replicate_succ, ← ih]
    show ((1 * 2 ^ (n + 1) - 1) / 2 ^ n % 2) :: fig (1 * 2 ^ (n + 1) - 1) n = _
    rw [e, fig_low 1 _ n n (Nat.le_refl _)]
    congr 1
    have h : (1 * 2 ^ n + (1 * 2 ^ n - 1) : Int) / 2 ^ n = 1 := by
      rw [Int.one_mul, Int.add_comm, Int.add_ediv_of_dvd_right (Int.dvd_refl _), Int.ediv_self (Int.ne_of_gt hp), Int.ediv_eq_zero_of_lt (by (first | lia | omega)) (by (first | lia | omega))]; rfl
    rw [h]; rfl
theorem cast8 (q : Nat) : ((q + 8 : Nat) : Int) - 8 = (q : Int) := by (first | lia | omega)
theorem castadd (z n : Nat) : (z : Int) + (n : Int) = ((z + n : Nat) : Int) := by (first | lia | omega)
/-- filled up with ones -/
def padded (B : List Int) : List Int := B ++ List.replicate ((8 - B.length % 8) % 8) 1
theorem WS.pad8 {F B : List Int} {r : Int} {z : Nat} (W : WS F r z B) (hz : z < 8) : padded B = B ++ List.replicate ((8 - z) % 8) 1 := by
  have e : B.length % 8 = z := by have := W.len; (first | lia | omega)
  rw [padded, e]
/-- a bit writer: its objects, the figures that it holds -/
inductive BwB (w : World) (x : Addr) (B : List Int) : List (Addr × Obj) → Prop
  | mk (d f : Addr) (F : List Int) (r : Int) (z : Nat) (tr tz k1 k2 k3 : Tok) (W : WS F r z B) (hz : z < 8) : BwB w x B [(x, instObj 260 d), (d, wrD w f r (z : Nat) tr tz k1 k2 k3), (f, baF F)]
theorem lt_of_add {a b n : Nat} (h : a + b < n) : a < n := Nat.lt_of_le_of_lt (Nat.le_add_right _ _) h
theorem line_4 : True := by
  k_with "binaryOp LShift int int" => (guard_expr in_B2 =~ in_B2; (k_here; (with_reducible refine lshift_int_small (by (first | lia | omega)) (by (first | lia | omega)) (by assumption) ?_)))
  exact trivial
theorem line_5 : True := by
  k_with "binaryOp RShift int int" => (guard_expr in_B2 =~ in_B2; (k_here; (with_reducible refine rshift_int (Int.natCast_nonneg _) ?_)))
  exact trivial
theorem line_6 : True := by
  k_with "binaryOp Sub int int" => (guard_expr in_B2 =~ in_B2; (k_here; (with_reducible refine sub_as (cast8 _) ?_)))
  exact trivial
theorem line_7 : True := by
  k_with "binaryOp Add int int" => (guard_expr in_B2 =~ in_B2; (k_here; (with_reducible refine add_as (castadd _ _) ?_)))
  exact trivial
theorem line_8 : True := by
  k_with "m oct0" => (guard_expr in_B2 =~ in_B2; ((rename WS _ _ _ _ => kzW); exact kzW.byte.1))
  exact trivial
theorem line_9 : True := by
  k_with "m oct1" => (guard_expr in_B2 =~ in_B2; ((rename WS _ _ _ _ => kzW); exact kzW.byte.2))
  exact trivial
theorem line_10 : True := by
  k_with "m octz" => (guard_expr in_B2 =~ in_B2; ((rename WS _ _ _ _ => kzW); have kzl := kzW.len; (try simp only [List.length_append, fig_length] at kzl); (first | lia | omega)))
  exact trivial
section
variable {w : World} {dp un : Nat} {fr : Option (List Env)} {gd : Option (List Code)} {h₀ : Heap} {s : Shared} {R : Result → Shared → Prop}
theorem put (C : Stc w h₀) (k : h₀.StaysIn s.heap) {X : Addr}
  {x : Addr} {B : List Int} {BB : List (Addr × Obj)} {v : Int} {n : Nat} {tv tn : Tok} (hd : dp + 1 < recursionLimit) (hu : un + 20 < cLine) (BW : BwB w x B BB) (hl : B.length ≤ 100000) (h0 : 0 ≤ v) (h1 : v < 2 ^ n) (hn : n ≤ 16)  (O : News h₀ X s.heap (BB))
  (ret : ∀ BB' (h' : Heap) (tk' : Nat), BwB w x (B ++ fig v n) BB' → Step X s.heap h' (BB) (BB') → R (.ok (.ret .none)) { s with heap := h', toks := tk' }) :
  codeC (model pw w) (ar dp fr gd un) (.call (.ref 243) ⟨[.ref x, .int v tv, .int n tn], []⟩) R s := by
  obtain ⟨d, f, Fl, r, z, tr, tz, k1, k2, k3, W, hz⟩ := BW
  refine' beginC ([(x, instObj 260 d), (d, wrD w f r z tr tz k1 k2 k3), (f, baF Fl)]) [(Str.ofString "self", .ref x), (Str.ofString "value", .int v tv), (Str.ofString "size", .int n tn)] (st := sub 17 1) C k (News.ent O) ?ho ?he ?hcd ?hroom ?hbind ?hsc ?_
  case ho => k_is
  case he => exact rfl
  case hcd => k_is
  case hroom => exact lt_of_add hd
  case hbind => exact rfl
  case hsc => exact rfl
  have hxd : Nq x d := ne_cls (O _ (.head _)).1 (O _ (.tail _ (.head _))).1 (by rfl)
  have hxf : Nq x f := ne_cls (O _ (.head _)).1 (O _ (.tail _ (.tail _ (.head _)))).1 (by rfl)
  have hdf : Nq d f := ne_cls (O _ (.tail _ (.head _))).1 (O _ (.tail _ (.tail _ (.head _)))).1 (by rfl)
  have BW : BwB w x B [(x, instObj 260 d), (d, wrD w f r (z : Nat) tr tz k1 k2 k3), (f, baF Fl)] := .mk d f Fl r z tr tz k1 k2 k3 W hz
  have hb1 : (1 : Int).natAbs < 2 ^ 64 := by decide
  have hb2 : r.natAbs < 2 ^ 64 := by
    have h2 := W.r1; have h3 := W.r0
    have h4 : (2 : Int) ^ z ≤ 2 ^ 8 := p2_le (Nat.le_of_lt hz)
    have h5 : (2 : Int) ^ 8 = 256 := rfl
    (first | lia | omega)
  have h1' : v < 1 * 2 ^ (n : Int).toNat := by rw [Int.one_mul]; exact h1
  intro g L h₁ mean mg mb tk F N X₁ T₁ En C' K
  k_extra "k_steps"
  refine' c_while (fun q m news => ∃ F' r' z' tr' tz', m = (fun y => List.lookup y [(Str.ofString "self", Value.ref x), (Str.ofString "value", Value.int v tv), (Str.ofString "size", Value.int n tn)].reverse) ∧ news = [(x, instObj 260 d), (d, wrD w f r' ((z' : Nat) : Int) tr' tz' k1 k2 k3), (f, baF F')] ∧ WS F' r' z' (B ++ fig v n) ∧ z' = q ∧ z' < 24) ?turn (n := z + n) (mk5 ⟨rfl, rfl, W.put h0 h1, rfl, by (first | lia | omega)⟩) (by assumption) (by assumption)
  case turn =>
    intro q m news h tk hJ F₁ N₁
    (with_reducible refine ex5 hJ ?_); clear hJ; intro F' r' z' tr' tz' hJ
    (with_reducible refine conj5 hJ ?_); clear hJ; intro hm9 hn9 W' hzq hz'
    replace F₁ := Fr.cast hm9 F₁; replace N₁ := News.cast hn9 N₁; clear hm9 hn9
    subst hzq
    (show wpAny _ _ _ _ _ _); k_fold
    rcases Nat.lt_or_ge z' 8 with hq | hq
    · k_extra "k_steps"
      exact ret _ _ _ (.mk d f F' r' z' tr' tz' k1 k2 k3 W' hq) (by k_extra "m step")
    · obtain ⟨q, rfl⟩ := Nat.exists_eq_add_of_le' hq
      k_extra "k_steps"
      refine TEnd.nextW (by assumption) (by assumption) ⟨q, Nat.lt_add_of_pos_right (by decide), mk5 ⟨rfl, rfl, W'.turn, rfl, by (first | lia | omega)⟩⟩
theorem line_11 : True := by
  k_with "codeC" => (guard_expr in_B2 =~ in_B2; ((with_reducible show codeC _ _ (Code.call (Value.ref 243) _) _ _); k_dflt (refine' put (by assumption) (by k_extra "m stay") (by k_extra "m room") (by k_extra "m room") (by assumption) (by first | assumption | omega) (by assumption) (by assumption) (by first | assumption | omega) (by k_extra "m own") ?_); intros; k_extra "m upS"))
  exact trivial
theorem line_12 : True := by
  k_with "binaryOp Sub int int" => (guard_expr in_B2 =~ in_B2; (k_here; (with_reducible refine sub_as (castsub (Nat.le_of_lt (by assumption))) ?_)))
  exact trivial
theorem pad (C : Stc w h₀) (k : h₀.StaysIn s.heap) {X : Addr}
  {x : Addr} {B : List Int} {BB : List (Addr × Obj)} (hd : dp + 2 < recursionLimit) (hu : un + 40 < cLine) (BW : BwB w x B BB) (hl : B.length ≤ 100000)  (O : News h₀ X s.heap (BB))
  (ret : ∀ BB' (h' : Heap) (tk' : Nat), BwB w x (padded B) BB' → Step X s.heap h' (BB) (BB') → R (.ok (.ret .none)) { s with heap := h', toks := tk' }) :
  codeC (model pw w) (ar dp fr gd un) (.call (.ref 250) ⟨[.ref x], []⟩) R s := by
  obtain ⟨d, f, Fl, r, z, tr, tz, k1, k2, k3, W, hz⟩ := BW
  refine' beginC ([(x, instObj 260 d), (d, wrD w f r z tr tz k1 k2 k3), (f, baF Fl)]) [(Str.ofString "self", .ref x)] (st := sub 17 2) C k (News.ent O) ?ho ?he ?hcd ?hroom ?hbind ?hsc ?_
  case ho => k_is
  case he => exact rfl
  case hcd => k_is
  case hroom => exact lt_of_add hd
  case hbind => exact rfl
  case hsc => exact rfl
  have hxd : Nq x d := ne_cls (O _ (.head _)).1 (O _ (.tail _ (.head _))).1 (by rfl)
  have hxf : Nq x f := ne_cls (O _ (.head _)).1 (O _ (.tail _ (.tail _ (.head _)))).1 (by rfl)
  have hdf : Nq d f := ne_cls (O _ (.tail _ (.head _))).1 (O _ (.tail _ (.tail _ (.head _)))).1 (by rfl)
  have BW : BwB w x B [(x, instObj 260 d), (d, wrD w f r (z : Nat) tr tz k1 k2 k3), (f, baF Fl)] := .mk d f Fl r z tr tz k1 k2 k3 W hz
  have hb1 : (1 : Int).natAbs < 2 ^ 64 := by decide
  have hv0 : (0 : Int) ≤ 1 * 2 ^ Int.toNat ((8 - z : Nat) : Int) - 1 := by have := p2 (8 - z); show (0 : Int) ≤ 1 * 2 ^ (8 - z) - 1; (first | lia | omega)
  have hv1 : (1 : Int) * 2 ^ Int.toNat ((8 - z : Nat) : Int) - 1 < 2 ^ (8 - z) := by show (1 * 2 ^ (8 - z) - 1 : Int) < 2 ^ (8 - z); (first | lia | omega)
  have h16 : 8 - z ≤ 16 := by (first | lia | omega)
  have hpd := W.pad8 hz
  intro g L h₁ mean mg mb tk F N X₁ T₁ En C' K
  k_extra "k_steps"
  · rename BwB _ _ _ _ => W2
    have e : B ++ fig (1 * 2 ^ Int.toNat ((8 - z : Nat) : Int) - 1) (8 - z) = padded B := by
      rw [hpd, Nat.mod_eq_of_lt (by (first | lia | omega))]; exact congrArg _ (ones_fig (8 - z))
    rw [e] at W2
    exact ret _ _ _ W2 (by k_extra "m step")
  · obtain rfl : z = 0 := by (first | lia | omega)
    exact ret _ _ _ (.mk d f Fl r 0 tr tz k1 k2 k3 (by rw [hpd]; show WS _ _ _ (B ++ []); rw [List.append_nil]; exact W) hz) (by k_extra "m step")
end
end

theorem words_of_B2 : True := by
  k_with "codeC" => (((with_reducible show codeC _ _ (Code.call (Value.ref 243) _) _ _); k_dflt (refine' put (by assumption) (by k_extra "m stay") (by k_extra "m room") (by k_extra "m room") (by assumption) (by first | assumption | omega) (by assumption) (by assumption) (by first | assumption | omega) (by k_extra "m own") ?_); intros; k_extra "m upS"))
  k_with "codeC" => (((with_reducible show codeC _ _ (Code.call (Value.ref 250) _) _ _); k_dflt (refine' pad (by assumption) (by k_extra "m stay") (by k_extra "m room") (by k_extra "m room") (by assumption) (by first | assumption | omega) (by k_extra "m own") ?_); intros; k_extra "m upS"))
  exact trivial
section
namespace G_B3
theorem in_B3 : True := trivial
end G_B3
open G_B3
theorem WS.nil : WS [] 0 0 [] := ⟨(fun _ h => nomatch h), Int.le_refl _, (by decide), rfl⟩
theorem WS.full {F B : List Int} {r : Int} {z : Nat} (W : WS F r z B) (hz : z < 8) (h : B.length % 8 = 0) : octs F = B ∧ Oct F := by
  have l := W.len
  obtain rfl : z = 0 := by (first | lia | omega)
  have := W.is
  rw [show fig r 0 = [] from rfl, List.append_nil] at this
  exact ⟨this, W.oct⟩
/-- an object whose dict knows no such name -/
def Inst0 (S : List (Addr × Obj)) (x C : Addr) (name : Str) : Prop := ∃ dx es n, (x, instObj C dx) ∈ S ∧ (dx, dictOf es n) ∈ S ∧ getL name es = some none
theorem meth_bund {prog : Program} {w : World} {A : Around} {E : Value → Shared → Prop} {s : Shared} {K : Frag} {h₀ : Heap} {L x C f : Addr} {m : Str → Option Value} {news S : List (Addr × Obj)} {name : Str} {pl : Sem Bool} {Q : Value × List Value → Shared → Prop}
    (F : Fr h₀ L s.heap m) (X₀ : K.In h₀) (N : News h₀ L s.heap news) (I : Inst0 S x C name) (sub : ∀ p ∈ S, p ∈ news) (hg : plainGet K C name = true)
    (hf : findIn K (.ref C) name = some (some (.ref f))) (ht : isFn K (.ref f) = true) (h : Q (.ref f, [.ref x]) s) : wpAny (model prog w) A (getMethod (.ref x) name pl) Q E s :=
  let ⟨_, _, _, a, b, e⟩ := I
  method_inst F X₀ (InstAt.of_news N (sub _ a) (sub _ b)) hg hf ht e h
theorem bwm_put {w : World} {x : Addr} {B : List Int} {S : List (Addr × Obj)} (h : BwB w x B S) : Inst0 S x 260 (Str.ofString "put") := by
  obtain ⟨⟩ := h
  exact ⟨_, _, _, .head _, .tail _ (.head _), by k_get⟩
theorem bwm_pad {w : World} {x : Addr} {B : List Int} {S : List (Addr × Obj)} (h : BwB w x B S) : Inst0 S x 260 (Str.ofString "pad") := by
  obtain ⟨⟩ := h
  exact ⟨_, _, _, .head _, .tail _ (.head _), by k_get⟩
theorem bwm_octets {w : World} {x : Addr} {B : List Int} {S : List (Addr × Obj)} (h : BwB w x B S) : Inst0 S x 260 (Str.ofString "octets") := by
  obtain ⟨⟩ := h
  exact ⟨_, _, _, .head _, .tail _ (.head _), by k_get⟩
section
variable {w : World} {dp un : Nat} {fr : Option (List Env)} {gd : Option (List Code)} {h₀ : Heap} {s : Shared} {R : Result → Shared → Prop}
theorem bw_init (C : Stc w h₀) (k : h₀.StaysIn s.heap) {X : Addr}
  {x d : Addr} (hd : dp + 2 < recursionLimit) (hu : un + 40 < cLine) (hxd : Nq x d) (O : News h₀ X s.heap ([(x, instObj 260 d), (d, dictOf [] 0)]))
  (ret : ∀ BB' (h' : Heap) (tk' : Nat), BwB w x [] BB' → Step X s.heap h' ([(x, instObj 260 d), (d, dictOf [] 0)]) (BB') → R (.ok (.ret .none)) { s with heap := h', toks := tk' }) :
  codeC (model pw w) (ar dp fr gd un) (.call (.ref 236) ⟨[.ref x], []⟩) R s := by
  refine' beginC ([(x, instObj 260 d), (d, dictOf [] 0)]) [(Str.ofString "self", .ref x)] (st := sub 17 0) C k (News.ent O) ?ho ?he ?hcd ?hroom ?hbind ?hsc ?_
  case ho => k_is
  case he => exact rfl
  case hcd => k_is
  case hroom => exact lt_of_add hd
  case hbind => exact rfl
  case hsc => exact rfl
  intro g L h₁ mean mg mb tk F N X₁ T₁ En C' K
  k_extra "k_steps"
  exact ret _ _ _ (.mk _ _ [] 0 0 _ _ _ _ _ .nil (by decide)) (by k_extra "m step")
theorem line_13 : True := by
  k_with "m baz" => (guard_expr in_B3 =~ in_B3; (rw [byteArr_size]; simp only [sizeLine_eq]; (first | lia | omega)))
  exact trivial
theorem bw_octets (C : Stc w h₀) (k : h₀.StaysIn s.heap) {X : Addr}
  {x : Addr} {B : List Int} {BB : List (Addr × Obj)} (hd : dp + 2 < recursionLimit) (hu : un + 40 < cLine) (BW : BwB w x B BB) (hl : B.length ≤ 100000) (h8 : B.length % 8 = 0) (O : News h₀ X s.heap (BB))
  (ret : ∀ F tb (h' : Heap) (tk' : Nat), octs F = B → Oct F → Step X s.heap h' (BB) (BB) → R (.ok (.ret (.bytes (byteArr F) tb))) { s with heap := h', toks := tk' }) :
  codeAny (model pw w) (ar dp fr gd un) (.call (.ref 257) ⟨[.ref x], []⟩) R s := by
  obtain ⟨d, f, Fl, r, z, tr, tz, k1, k2, k3, W, hz⟩ := BW
  refine' begin ([(x, instObj 260 d), (d, wrD w f r z tr tz k1 k2 k3), (f, baF Fl)]) [(Str.ofString "self", .ref x)] (st := sub 17 3) C k (News.ent O) ?ho ?he ?hcd ?hroom ?hbind ?hsc ?_
  case ho => k_is
  case he => exact rfl
  case hcd => k_is
  case hroom => exact lt_of_add hd
  case hbind => exact rfl
  case hsc => exact rfl
  have hxd : Nq x d := ne_cls (O _ (.head _)).1 (O _ (.tail _ (.head _))).1 (by rfl)
  have hxf : Nq x f := ne_cls (O _ (.head _)).1 (O _ (.tail _ (.tail _ (.head _)))).1 (by rfl)
  have hdf : Nq d f := ne_cls (O _ (.tail _ (.head _))).1 (O _ (.tail _ (.tail _ (.head _)))).1 (by rfl)
  have BW : BwB w x B [(x, instObj 260 d), (d, wrD w f r (z : Nat) tr tz k1 k2 k3), (f, baF Fl)] := .mk d f Fl r z tr tz k1 k2 k3 W hz
  obtain ⟨hF1, hF2⟩ := W.full hz h8
  have hFl : Fl.length ≤ 100000 := by have := W.len; (first | lia | omega)
  intro g L h₁ mean mg mb tk F N X₁ T₁ En C' K
  k_extra "k_steps"
  exact ret Fl _ _ _ hF1 hF2 (by k_extra "m step")
end
end

theorem words_of_B3 : True := by
  k_with "codeC" => (((with_reducible show codeC _ _ (Code.call (Value.ref 236) _) _ _); k_dflt (refine' bw_init (by assumption) (by k_extra "m stay") (by k_extra "m room") (by k_extra "m room") (by k_extra "m nq") (by k_extra "m own") ?_); intros; k_extra "m upS"))
  k_with "codeAny" => (((with_reducible show codeAny _ _ (Code.call (Value.ref 257) _) _ _); k_dflt (refine' bw_octets (by assumption) (by k_extra "m stay") (by k_extra "m room") (by k_extra "m room") (by assumption) (by first | assumption | omega) (by assumption) (by k_extra "m own") ?_); intros; k_extra "m upS"))
  k_with "getMethod ref" => ((k_here; k_dflt (refine' meth_bund (by k_asm) (by k_asm) (by k_asm) (by k_extra "m inst") (by k_extra "m sb") (by k_is) (by k_is) (by k_is) ?_)))
  k_with "m inst" => (first | exact bwm_put (by assumption) | exact bwm_pad (by assumption) | exact bwm_octets (by assumption))
  exact trivial
section
abbrev skD (w : World) (v : Value) (bw : Addr) (k1 k2 : Tok) : Obj := dictOf [⟨PyData.keyHash w.params "tables", .str "tables" k1, v⟩, ⟨PyData.keyHash w.params "writer", .str "writer" k2, .ref bw⟩] 2
/-- a sink: its objects, the figures that it holds -/
inductive SinkB (w : World) (x TD : Addr) (B : List Int) : List (Addr × Obj) → Prop
  | mk (d b : Addr) (k1 k2 : Tok) (BB : List (Addr × Obj)) (BW : BwB w b B BB) (nx : NqL x (BB.map (·.1))) (nd : NqL d (BB.map (·.1))) (n : Nq x d) : SinkB w x TD B ((x, instObj 582 d) :: (d, skD w (.ref TD) b k1 k2) :: BB)
theorem Step.nql {d : Addr} {BB BB' : List (Addr × Obj)} {h h' : Heap} {X : Addr} (St : Step X h h' BB BB') (n : NqL d (BB.map (·.1))) {o : Obj} (e : h.get? d = some o) : NqL d (BB'.map (·.1)) := ⟨fun y hy q => by
  obtain ⟨p, hp, rfl⟩ := List.mem_map.mp hy
  rcases (St.new p hp).2 with z | z
  · exact n.h _ z q
  · rw [q, e] at z; cases z⟩
theorem padded_mod (B : List Int) : (padded B).length % 8 = 0 := by rw [padded, List.length_append, List.length_replicate]; (first | lia | omega)
theorem padded_le (B : List Int) : (padded B).length ≤ B.length + 7 := by rw [padded, List.length_append, List.length_replicate]; (first | lia | omega)
theorem skm_symbol {w : World} {x TD : Addr} {B : List Int} {S : List (Addr × Obj)} (h : SinkB w x TD B S) : Inst0 S x 582 (Str.ofString "symbol") := by
  obtain ⟨⟩ := h
  exact ⟨_, _, _, .head _, .tail _ (.head _), by k_get⟩
theorem skm_bits {w : World} {x TD : Addr} {B : List Int} {S : List (Addr × Obj)} (h : SinkB w x TD B S) : Inst0 S x 582 (Str.ofString "bits") := by
  obtain ⟨⟩ := h
  exact ⟨_, _, _, .head _, .tail _ (.head _), by k_get⟩
theorem skm_finish {w : World} {x TD : Addr} {B : List Int} {S : List (Addr × Obj)} (h : SinkB w x TD B S) : Inst0 S x 582 (Str.ofString "finish") := by
  obtain ⟨⟩ := h
  exact ⟨_, _, _, .head _, .tail _ (.head _), by k_get⟩
section
variable {w : World} {dp un : Nat} {fr : Option (List Env)} {gd : Option (List Code)} {h₀ : Heap} {s : Shared} {R : Result → Shared → Prop}
theorem sk_init (C : Stc w h₀) (k : h₀.StaysIn s.heap) {X : Addr}
  {x d TD : Addr} (hd : dp + 6 < recursionLimit) (hu : un + 100 < cLine) (n9 : Nq x d) (O : News h₀ X s.heap ([(x, instObj 582 d), (d, dictOf [] 0)]))
  (ret : ∀ SB' (h' : Heap) (tk' : Nat), SinkB w x TD [] SB' → Step X s.heap h' ([(x, instObj 582 d), (d, dictOf [] 0)]) (SB') → R (.ok (.ret .none)) { s with heap := h', toks := tk' }) :
  codeC (model pw w) (ar dp fr gd un) (.call (.ref 558) ⟨[.ref x, .ref TD], []⟩) R s := by
  refine' beginC ([(x, instObj 582 d), (d, dictOf [] 0)]) [(Str.ofString "self", .ref x), (Str.ofString "tables", .ref TD)] (st := sub 36 0) C k (News.ent O) ?ho ?he ?hcd ?hroom ?hbind ?hsc ?_
  case ho => k_is
  case he => exact rfl
  case hcd => k_is
  case hroom => exact lt_of_add hd
  case hbind => exact rfl
  case hsc => exact rfl
  intro g L h₁ mean mg mb tk F N X₁ T₁ En C' K
  k_extra "k_steps"
  exact ret _ _ _ (.mk d _ _ _ _ (by assumption) (by k_extra "m nqt") (by k_extra "m nqt") (by k_extra "m nq")) (by k_extra "m step")
theorem sk_bits (C : Stc w h₀) (k : h₀.StaysIn s.heap) {X : Addr}
  {x TD : Addr} {B : List Int} {SB : List (Addr × Obj)} {u : Int} {n : Nat} {tv tn : Tok} (hd : dp + 6 < recursionLimit) (hu : un + 100 < cLine) (BS : SinkB w x TD B SB) (hl : B.length ≤ 90000) (h0 : 0 ≤ u) (h1 : u < 2 ^ n) (hn : n ≤ 16) (O : News h₀ X s.heap (SB))
  (ret : ∀ SB' (h' : Heap) (tk' : Nat), SinkB w x TD (B ++ fig u n) SB' → Step X s.heap h' (SB) (SB') → R (.ok (.ret .none)) { s with heap := h', toks := tk' }) :
  codeC (model pw w) (ar dp fr gd un) (.call (.ref 572) ⟨[.ref x, .int u tv, .int n tn], []⟩) R s := by
  obtain ⟨d, b, k1, k2, BB, BW, nx, nd, n9⟩ := BS
  refine' beginC ((x, instObj 582 d) :: (d, skD w (.ref TD) b k1 k2) :: BB) [(Str.ofString "self", .ref x), (Str.ofString "v", .int u tv), (Str.ofString "size", .int n tn)] (st := sub 36 2) C k (News.ent O) ?ho ?he ?hcd ?hroom ?hbind ?hsc ?_
  case ho => k_is
  case he => exact rfl
  case hcd => k_is
  case hroom => exact lt_of_add hd
  case hbind => exact rfl
  case hsc => exact rfl
  intro g L h₁ mean mg mb tk F N X₁ T₁ En C' K
  k_extra "k_steps"
  exact ret _ _ _ (.mk d _ _ _ _ (by assumption) (by k_extra "m nqt") (by k_extra "m nqt") (by k_extra "m nq")) (by k_extra "m step")
theorem sk_finish (C : Stc w h₀) (k : h₀.StaysIn s.heap) {X : Addr}
  {x TD : Addr} {B : List Int} {SB : List (Addr × Obj)} (hd : dp + 6 < recursionLimit) (hu : un + 100 < cLine) (BS : SinkB w x TD B SB) (hl : B.length ≤ 90000) (O : News h₀ X s.heap (SB))
  (ret : ∀ F tb SB' (h' : Heap) (tk' : Nat), octs F = padded B → Oct F → SinkB w x TD [] SB' → Step X s.heap h' (SB) (SB') → R (.ok (.ret (.bytes (byteArr F) tb))) { s with heap := h', toks := tk' }) :
  codeC (model pw w) (ar dp fr gd un) (.call (.ref 579) ⟨[.ref x], []⟩) R s := by
  obtain ⟨d, b, k1, k2, BB, BW, nx, nd, n9⟩ := BS
  refine' beginC ((x, instObj 582 d) :: (d, skD w (.ref TD) b k1 k2) :: BB) [(Str.ofString "self", .ref x)] (st := sub 36 3) C k (News.ent O) ?ho ?he ?hcd ?hroom ?hbind ?hsc ?_
  case ho => k_is
  case he => exact rfl
  case hcd => k_is
  case hroom => exact lt_of_add hd
  case hbind => exact rfl
  case hsc => exact rfl
  have h8 := padded_mod B
  have hl8 : (padded B).length ≤ 100000 := Nat.le_trans (padded_le B) (by (first | lia | omega))
  intro g L h₁ mean mg mb tk F N X₁ T₁ En C' K
  k_extra "k_steps"
  exact ret _ _ _ _ _ (by assumption) (by assumption) (.mk d _ _ _ _ (by assumption) (by k_extra "m nqt") (by k_extra "m nqt") (by k_extra "m nq")) (by k_extra "m step")
end
end

theorem words_of_C2 : True := by
  k_with "codeC" => (((with_reducible show codeC _ _ (Code.call (Value.ref 558) _) _ _); k_dflt (refine' sk_init (by assumption) (by k_extra "m stay") (by k_extra "m room") (by k_extra "m room") (by k_extra "m nq") (by k_extra "m own") ?_); intros; k_extra "m upS"))
  k_with "codeC" => (((with_reducible show codeC _ _ (Code.call (Value.ref 572) _) _ _); k_dflt (refine' sk_bits (by assumption) (by k_extra "m stay") (by k_extra "m room") (by k_extra "m room") (by assumption) (by k_extra "m blen") (by first | assumption | omega) (by assumption) (by first | assumption | omega) (by k_extra "m own") ?_); intros; k_extra "m upS"))
  k_with "codeC" => (((with_reducible show codeC _ _ (Code.call (Value.ref 579) _) _ _); k_dflt (refine' sk_finish (by assumption) (by k_extra "m stay") (by k_extra "m room") (by k_extra "m room") (by assumption) (by k_extra "m blen") (by k_extra "m own") ?_); intros; k_extra "m upS"))
  k_with "m inst" => (first | exact skm_symbol (by assumption) | exact skm_bits (by assumption) | exact skm_finish (by assumption))
  k_with "m blen" => (first | assumption | ((try simp only [List.length_append, fig_length]); (first | lia | omega)))
  exact trivial
section
namespace G_Tb
theorem in_Tb : True := trivial
end G_Tb
open G_Tb
abbrev tupOf (vs : List Value) (n : Nat) : Obj := { cls := .type "tuple", data := .seq vs.toArray n }
theorem tup_base {g h : Heap} {L t : Addr} {m : Str → Option Value} {vs : List Value} {n : Nat} (F : Fr g L h m) (e : g.get? t = some (tupOf vs n)) : IsTup h t vs.toArray := ⟨_, F.keep _ _ e, rfl, n, rfl⟩
abbrev tblD (w : World) (cv : Value) (st rs cd : Addr) (k1 k2 k3 k4 : Tok) : Obj := dictOf [⟨PyData.keyHash w.params "counts", .str "counts" k1, cv⟩, ⟨PyData.keyHash w.params "symbols", .str "symbols" k2, .ref st⟩, ⟨PyData.keyHash w.params "rows", .str "rows" k3, .ref rs⟩, ⟨PyData.keyHash w.params "codes", .str "codes" k4, .ref cd⟩] 4
/-- a table whose codes all have one length -/
structure TblX (w : World) (h : Heap) (T dT st rs cd : Addr) (cv : Value) (k1 k2 k3 k4 : Tok) (vs rvs : List Value) (ns nr : Nat) (f : Int → Option Value) (syms : List Int) (ln : Nat) : Prop where
  oT : h.get? T = some (instObj 218 dT)
  oD : h.get? dT = some (tblD w cv st rs cd k1 k2 k3 k4)
  oS : h.get? st = some (tupOf vs ns)
  vl : vs.length = syms.length
  sym : ∀ (i : Nat) (v : Int), syms[i]? = some v → ∃ t, vs[i]? = some (.int v t)
  oR : h.get? rs = some (listOf rvs.toArray nr)
  row : ∀ (i : Nat), i < ln → ∃ r t1 t2 t3 n, rvs[i]? = some (.ref r) ∧ h.get? r = some (tupOf [.int 0 t1, .int (if i + 1 = ln then (syms.length : Int) else 0) t2, .int 0 t3] n)
  ll : 0 < ln ∧ ln ≤ 16 ∧ ln ≤ rvs.length
  oC : h.MapOf (intKind pw w) cd f
  sC : (cd == sysModules) = false
  code : ∀ (i : Nat) (v : Int), syms[i]? = some v → ∃ t t1 t2 n, f v = some (.ref t) ∧ h.get? t = some (tupOf [.int (i : Int) t1, .int (ln : Int) t2] n)
  few : syms.length < 2 ^ ln
inductive Tbl (w : World) (h : Heap) (T : Addr) (syms : List Int) (ln : Nat) : Prop
  | mk (dT st rs cd : Addr) (cv : Value) (k1 k2 k3 k4 : Tok) (vs rvs : List Value) (ns nr : Nat) (f : Int → Option Value) (X : TblX w h T dT st rs cd cv k1 k2 k3 k4 vs rvs ns nr f syms ln) : Tbl w h T syms ln
theorem Tbl.elim {w : World} {h : Heap} {T : Addr} {syms : List Int} {ln : Nat} {G : Prop} (H : Tbl w h T syms ln) (k : ∀ dT st rs cd cv k1 k2 k3 k4 vs rvs ns nr f, TblX w h T dT st rs cd cv k1 k2 k3 k4 vs rvs ns nr f syms ln → G) : G :=
  Tbl.casesOn (motive := fun _ => G) H k
theorem MapOf.keep {prog : Program} {w : World} {K : Type} [DecidableEq K] {knd : KeyKind prog w K} {h h' : Heap} {a : Addr} {f : K → Option Value} (x : h.MapOf knd a f) (k : h.StaysIn h') : h'.MapOf knd a f :=
  let ⟨o, es, ep, ho, r⟩ := x; ⟨o, es, ep, k _ _ ho, r⟩
theorem Tbl.keeps {w : World} {h h' : Heap} {T : Addr} {syms : List Int} {ln : Nat} (x : Tbl w h T syms ln) (k : h.StaysIn h') : Tbl w h' T syms ln := by
  obtain ⟨dT, st, rs, cd, cv, k1, k2, k3, k4, vs, rvs, ns, nr, f, X⟩ := x
  refine ⟨dT, st, rs, cd, cv, k1, k2, k3, k4, vs, rvs, ns, nr, f, k _ _ X.oT, k _ _ X.oD, k _ _ X.oS, X.vl, X.sym, k _ _ X.oR, fun i hi => ?_, X.ll, MapOf.keep X.oC k, X.sC, fun i v hi => ?_, X.few⟩
  · obtain ⟨r, t1, t2, t3, n, a, b⟩ := X.row i hi
    exact ⟨r, t1, t2, t3, n, a, k _ _ b⟩
  · obtain ⟨t, t1, t2, n, a, b⟩ := X.code i v hi
    exact ⟨t, t1, t2, n, a, k _ _ b⟩
section
variable {prog : Program} {w : World} {A : Around} {E : Value → Shared → Prop} {s : Shared} {g : Heap} {L : Addr} {m : Str → Option Value}
theorem map_method {d : Addr} {f : Int → Option Value} {pl : Sem Bool} {Q : Value × List Value → Shared → Prop} (F : Fr g L s.heap m) (T : g.MapOf (intKind pw w) d f) (h : Q (.builtin "dict.get", [.ref d]) s) :
    wpAny (model prog w) A (getMethod (.ref d) "get" pl) Q E s :=
  getMethod_builtin ((MapOf.keep T F.keep).typeIs (s := s)) PySem.F.plainAttrs_dict PySem.F.slot_dict_get PySem.F.type_dict_get (MapOf.keep T F.keep).noDict h
theorem tup_itemB {value slice : Expr} {t : Addr} {vs : List Value} {n : Nat} {k : Int} {u : Tok} {j : Nat} {x : Value} {Q : Value → Shared → Prop} (F : Fr g L s.heap m) (e : g.get? t = some (tupOf vs n)) (hx : vs[j]? = some x) (hk : k = (j : Int)) (hj : j < 1000000) (h : Q x s)
    (hs : subscripted slice false (.ref t) (.int k u) = operate [.ref t, .int k u] (getItem (.ref t) (.int k u)) := by with_unfolding_all rfl) :
    wpAny (model prog w) A (subscriptTail value slice (.ref t) (.int k u)) Q E s := by
  have hl : j < vs.length := (List.getElem?_eq_some_iff.mp hx).1
  refine item_tupleT (tup_base F e) (by (first | lia | omega)) (by (first | lia | omega)) (j := j) ?_ hx h hs
  subst hk
  unfold seqIndex?
  simp only [Int.natCast_nonneg, Int.not_lt.mpr, if_false]
  simp [hl]
theorem map_get {d : Addr} {f : Int → Option Value} {k : Int} {t : Tok} {v : Value} {Q : Value → Shared → Prop} (F : Fr g L s.heap m) (T : g.MapOf (intKind prog w) d f) (lo : (d == sysModules) = false) (hv : f k = some v) (h : Q v { s with toks := s.toks + 1 }) :
    wpAny (model prog w) A (call (.builtin "dict.get") [.ref d, .int k t]) Q E s := by
  have T' := MapOf.keep T F.keep
  exact call_meetsIn PySem.F.slot_dict_get (T'.typeIs (s := s)) PySem.F.entry_dict_get (PySem.F.args_dict_get_2 _ _) (meets_dict_get (intKind prog w) d (intKind_is prog w k t) lo) ⟨_, T', by rw [hv]; exact h⟩
end
theorem line_14 : True := by
  k_with "k_inst" => (guard_expr in_Tb =~ in_Tb; exact InstAt.of_at (Fr.keep (by k_asm) _ _ (by with_reducible assumption)) (Fr.keep (by k_asm) _ _ (by with_reducible assumption)))
  exact trivial
theorem line_15 : True := by
  k_with "getMethod ref" => (guard_expr in_Tb =~ in_Tb; (k_here; k_dflt (refine' map_method (by k_asm) (by assumption) ?_)))
  exact trivial
theorem line_16 : True := by
  k_with "call builtin:dict.get" => (guard_expr in_Tb =~ in_Tb; (k_here; k_dflt (refine' map_get (by k_asm) (by assumption) (by assumption) (by assumption) ?_)))
  exact trivial
theorem line_17 : True := by
  k_with "assign Tuple" => (guard_expr in_Tb =~ in_Tb; (k_here; (with_reducible show wpAny _ _ (assign (Expr.Tuple _ _ _) _ (Value.ref _)) _ _ _); k_dflt (refine' unpackN_ (by k_asm) (by k_asm) (by exact tup_base (by k_asm) (by assumption)) (by exact rfl) (by exact rfl) (by exact rfl) ?_); intro kzh kzF kzN; (try k_sweep)))
  exact trivial
section
variable {w : World} {dp un : Nat} {fr : Option (List Env)} {gd : Option (List Code)} {h₀ : Heap} {s : Shared} {R : Result → Shared → Prop}
theorem ht_code (C : Stc w h₀) (k : h₀.StaysIn s.heap)
  {T : Addr} {syms : List Int} {ln i : Nat} {v : Int} {tv : Tok} (hd : dp + 2 < recursionLimit) (hu : un + 20 < cLine)
  (H : Tbl w h₀ T syms ln) (hv : syms[i]? = some v)
  (ret : ∀ (t : Addr) t1 t2 n (h' : Heap) (tk' : Nat), h₀.get? t = some (tupOf [.int (i : Int) t1, .int (ln : Int) t2] n) → Keep [] s.heap h' → R (.ok (.ret (.ref t))) { s with heap := h', toks := tk' }) :
  codeAny (model pw w) (ar dp fr gd un) (.call (.ref 208) ⟨[.ref T, .int v tv], []⟩) R s := by
  refine Tbl.elim H ?_; intro dT st rs cd cv k1 k2 k3 k4 vs rvs ns nr f X
  refine' begin [] [(Str.ofString "self", .ref T), (Str.ofString "symbol", .int v tv)] (st := sub 15 1) C k ?hS ?ho ?he ?hcd ?hroom ?hbind ?hsc ?_
  case hS => k_extra "m ent"
  case ho => k_is
  case he => exact rfl
  case hcd => k_is
  case hroom => (first | lia | omega)
  case hbind => exact rfl
  case hsc => exact rfl
  obtain ⟨t, t1, t2, n, hf, ht⟩ := X.code i v hv
  intro g L h₁ mean mg mb tk F N X₁ T₁ En C' K
  have e1 := K _ _ X.oT
  have e2 := K _ _ X.oD
  have e3 := MapOf.keep X.oC K
  have e4 := X.sC
  k_extra "k_steps"
  exact ret _ _ _ _ _ _ ht (by k_extra "m keep")
theorem line_18 : True := by
  k_with "subscriptTail" => (guard_expr in_Tb =~ in_Tb; (k_here; (with_reducible show wpAny _ _ (subscriptTail _ _ (Value.ref _) (Value.int _ _)) _ _ _); k_dflt (refine' tup_itemB (by k_asm) (by assumption) (by assumption) (by (first | lia | omega)) (by (first | lia | omega)) ?_)))
  exact trivial
theorem ht_read (C : Stc w h₀) (k : h₀.StaysIn s.heap)
  {T x d : Addr} {syms : List Int} {ln i : Nat} {v : Int} {b : Array UInt8} {ks : List Int} {tb ta kk1 kk2 : Tok} {p : Nat} {rest : List Int} (hd : dp + 2 < recursionLimit) (hu : un + 20 < cLine)
  (hx : s.heap.get? x = some (instObj 302 d) ∧ h₀.get? x = none) (hdd : s.heap.get? d = some (rdD w b tb p ta kk1 kk2) ∧ h₀.get? d = none)
  (H : Tbl w h₀ T syms ln) (hv : syms[i]? = some v)
  (hks : KBw.bInts b = ks) (hsz : ks.length ≤ 100000) (hc : (octs ks).drop p = fig (i : Int) ln ++ rest) (hp : p ≤ 8 * ks.length)
  (ret : ∀ (t t' : Tok) (h' : Heap) (tk' : Nat), Keep [d] s.heap h' → h'.get? d = some (rdD w b tb ((p + ln : Nat) : Int) t' kk1 kk2) → R (.ok (.ret (.int v t))) { s with heap := h', toks := tk' }) :
  codeAny (model pw w) (ar dp fr gd un) (.call (.ref 215) ⟨[.ref T, .ref x], []⟩) R s := by
  refine Tbl.elim H ?_; intro dT st rs cd cv k1 k2 k3 k4 vs rvs ns nr f X
  refine' begin [(x, instObj 302 d), (d, rdD w b tb p ta kk1 kk2)] [(Str.ofString "self", .ref T), (Str.ofString "reader", .ref x)] (st := sub 15 2) C k ?hS ?ho ?he ?hcd ?hroom ?hbind ?hsc ?_
  case hS => k_extra "m ent"
  case ho => k_is
  case he => exact rfl
  case hcd => k_is
  case hroom => (first | lia | omega)
  case hbind => exact rfl
  case hsc => exact rfl
  have hxd := ne_cls hx.1 hdd.1 (by rfl)
  obtain ⟨tvs, hvs⟩ := X.sym i v hv
  have hil : i < syms.length := (List.getElem?_eq_some_iff.mp hv).1
  have hfew := X.few
  have hlls := X.ll
  have hi2 : i < 2 ^ ln := Nat.lt_trans hil hfew
  have hval : val (fig (i : Int) ln) = i := val_fig' (Int.natCast_nonneg i) (by rw [← kbt_cast]; exact Int.ofNat_lt.mpr hi2)
  have h16 : 2 ^ ln ≤ 2 ^ 16 := Nat.pow_le_pow_right (by decide) hlls.2.1
  have h16' : (2 : Nat) ^ 16 = 65536 := rfl
  intro g L h₁ mean mg mb tk F N X₁ T₁ En C' K
  have e1 := K _ _ X.oT
  have e2 := K _ _ X.oD
  have e3 := K _ _ X.oS
  have e4 := K _ _ X.oR
  k_extra "k_steps"
  k_extra "m turns"
  k_extra "k_steps"
  refine' for_listB (fun j m news => j < ln ∧ E5c2 (fun u1 u2 u3 tc td => m = (fun y => if y = Str.ofString "code" then some (.int (val ((fig (i : Int) ln).take j)) tc) else if y = Str.ofString "place" then u3 else if y = Str.ofString "many" then u2 else if y = Str.ofString "first" then u1 else List.lookup y [(Str.ofString "self", Value.ref T), (Str.ofString "reader", Value.ref x)].reverse)) (fun u1 u2 u3 tc td => news = [(x, instObj 302 d), (d, rdD w b tb ((p + j : Nat) : Int) td kk1 kk2)])) (by rfl) e4 ListObj.of (by assumption) (by assumption) ?h0 ?turn ?done
  case h0 => exact ⟨hlls.1, none, none, none, _, _, by k_extra "m map", rfl⟩
  case turn =>
    rintro I j v' m news h tk o lI hj' ⟨hj, u1, u2, u3, tc, td, rfl, rfl⟩ hI F' N'
    obtain ⟨c, rest', hc', hv'⟩ := fig_turn hc (i := j) (by rw [fig_length]; exact hj)
    obtain ⟨r, t1, t2, t3, n, hr, hr'⟩ := X.row j hj
    rw [hr] at hj'
    cases hj'
    have e5 := K _ _ hr'
    have hp1 : 0 ≤ val ((fig (i : Int) ln).take j) * 2 + c := by rw [← hv']; exact (fig_val _ fun c hc => fig_01 _ _ c (List.mem_of_mem_take hc)).2.1
    k_lt lI
    (try k_fold)
    rcases Nat.lt_or_ge (j + 1) ln with hl | hl
    · rw [if_neg (by (first | lia | omega))] at e5
      k_extra "k_steps"
      refine' TEnd.nextF (by assumption) (by assumption) ?o ⟨hl, _, _, _, _, _, ?map, rfl⟩
      case o => k_extra "m off"
      case map => rw [hv']; k_extra "m map"
    · obtain rfl : ln = j + 1 := by (first | lia | omega)
      rw [if_pos rfl] at e5
      have hk : val ((fig (i : Int) (j + 1)).take j) * 2 + c = (i : Int) := by
        rw [← hv', List.take_of_length_le (by rw [fig_length]; exact Nat.le_refl _), hval]
      k_extra "k_steps"
      exact TEnd.ret (ret _ _ _ _ (by k_extra "m keep") (by k_extra "m get"))
  case done =>
    rintro m news h tk ⟨hj, _⟩ F' N'
    exact False.elim (by (first | lia | omega))
end
end

theorem words_of_Tb : True := by
  k_with "k_inst" => (exact InstAt.of_at (Fr.keep (by k_asm) _ _ (by with_reducible assumption)) (Fr.keep (by k_asm) _ _ (by with_reducible assumption)))
  k_with "assign Tuple" => ((k_here; (with_reducible show wpAny _ _ (assign (Expr.Tuple _ _ _) _ (Value.ref _)) _ _ _); k_dflt (refine' unpackN_ (by k_asm) (by k_asm) (by exact tup_base (by k_asm) (by assumption)) (by exact rfl) (by exact rfl) (by exact rfl) ?_); intro kzh kzF kzN; (try k_sweep)))
  k_with "codeAny" => (((with_reducible show codeAny _ _ (Code.call (Value.ref 208) _) _ _); k_dflt (refine' ht_code (by assumption) (by k_extra "m stay") (by k_extra "m room") (by k_extra "m room") (by assumption) (by assumption) ?_); intros; k_extra "m upd0"))
  k_with "codeAny" => (((with_reducible show codeAny _ _ (Code.call (Value.ref 215) _) _ _); k_dflt (refine' ht_read (by assumption) (by k_extra "m stay") (by k_extra "m room") (by k_extra "m room") (by k_extra "m two") (by k_extra "m two") (by assumption) (by assumption) (by assumption) (by assumption) (by assumption) (by (first | lia | omega)) ?_); intros; k_extra "m upd1"))
  exact trivial
section
namespace G_S2
theorem in_S2 : True := trivial
end G_S2
open G_S2
/-- the tables' dict: two kinds, two slots -/
def Tabs (w : World) (h : Heap) (TD : Addr) (ls : Int → Int → List Int × Nat) : Prop := ∃ xs, h.DictOfH (tupleKind (intKind pw w)) TD xs ∧ ∀ a b, (a = 0 ∨ a = 1) → (b = 0 ∨ b = 1) → ∃ ka T, atKey xs [a, b] = some (ka, .ref T) ∧ Tbl w h T (ls a b).1 (ls a b).2
theorem DictOfH.keeps {w : World} {h h' : Heap} {d : Addr} {xs : List (List Int × Addr × Value)} (x : h.DictOfH (tupleKind (intKind pw w)) d xs) (k : h.StaysIn h') : h'.DictOfH (tupleKind (intKind pw w)) d xs := by
  obtain ⟨o, es, ep, ho, a, b, c, d, e⟩ := x
  refine ⟨o, es, ep, k _ _ ho, a, b, c, fun x hx => ?_, e⟩
  obtain ⟨o, items, n, ho, r⟩ := d x hx
  exact ⟨o, items, n, k _ _ ho, r⟩
theorem Tabs.keeps {w : World} {h h' : Heap} {TD : Addr} {ls : Int → Int → List Int × Nat} (x : Tabs w h TD ls) (k : h.StaysIn h') : Tabs w h' TD ls := by
  obtain ⟨xs, D, r⟩ := x
  refine ⟨xs, DictOfH.keeps D k, fun a b ha hb => ?_⟩
  obtain ⟨ka, T, e, H⟩ := r a b ha hb
  exact ⟨ka, T, e, H.keeps k⟩
theorem tkey {w : World} {h : Heap} {a b : Int} {ta tb : Tok} {key : Addr} {n : Nat} (e : h.get? key = some (tupOf [.int a ta, .int b tb] n)) : (tupleKind (intKind pw w)).is h [a, b] key :=
  ⟨_, _, n, e, rfl, rfl, .cons (intKind_is pw w a ta) (.cons (intKind_is pw w b tb) .nil)⟩
section
variable {w : World} {A : Around} {E : Value → Shared → Prop} {s : Shared} {g : Heap} {L : Addr} {m : Str → Option Value}
theorem tab_itemG {value slice : Expr} {TD key : Addr} {xs : List (List Int × Addr × Value)} {a b : Int} {ta tb : Tok} {n : Nat} {p : Addr × Value} {Q : Value → Shared → Prop} (F : Fr g L s.heap m) (hm : g.DictOfH (tupleKind (intKind pw w)) TD xs) (hk : s.heap.get? key = some (tupOf [.int a ta, .int b tb] n))
    (hp : atKey xs [a, b] = some p) (hu : A.units + 1 < cLine) (h : ∀ tk, Q p.2 { s with toks := tk })
    (hs : subscripted slice false (.ref TD) (.ref key) = operate [.ref TD, .ref key] (getItem (.ref TD) (.ref key)) := by with_unfolding_all rfl) (ht : ∀ r, letTemporaryGo value (.ref TD) r = pure () := by intro _; with_unfolding_all rfl) :
    wpAny (model pw w) A (subscriptTail value slice (.ref TD) (.ref key)) Q E s :=
  have hm' := DictOfH.keeps hm F.keep
  subscriptTail_builtin hm'.typeIs slot_dict_getitem.lookup (wpAny_getItem_heap (tupleKind_room_in1 hu) (tkey hk) hm' hp (h _)) hs ht
end
theorem line_19 : True := by
  k_with "subscriptTail" => (guard_expr in_S2 =~ in_S2; (k_here; (with_reducible show wpAny _ _ (subscriptTail _ _ (Value.ref _) (Value.ref _)) _ _ _); k_dflt (refine' tab_itemG (by k_asm) (by assumption) (by k_extra "m rd") (by assumption) (by k_extra "m room") ?_); intro kzt))
  exact trivial
section
variable {w : World} {dp un : Nat} {fr : Option (List Env)} {gd : Option (List Code)} {h₀ : Heap} {s : Shared} {R : Result → Shared → Prop}
theorem sk_symbol (C : Stc w h₀) (k : h₀.StaysIn s.heap) {X : Addr}
  {x TD : Addr} {B : List Int} {SB : List (Addr × Obj)} {key : Addr} {ka kb : Int} {ta tb : Tok} {nk : Nat} {ls : Int → Int → List Int × Nat} {v : Int} {i : Nat} {tv : Tok} (hd : dp + 6 < recursionLimit) (hu : un + 100 < cLine) (BS : SinkB w x TD B SB) (hkk : s.heap.get? key = some (tupOf [.int ka ta, .int kb tb] nk)) (nkS : NqL key (SB.map (·.1))) (H : Tabs w h₀ TD ls) (ha : ka = 0 ∨ ka = 1) (hb2 : kb = 0 ∨ kb = 1) (hv : (ls ka kb).1[i]? = some v) (hl : B.length ≤ 80000) (O : News h₀ X s.heap (SB))
  (ret : ∀ SB' (h' : Heap) (tk' : Nat), SinkB w x TD (B ++ fig (i : Int) (ls ka kb).2) SB' → Step X s.heap h' (SB) (SB') → R (.ok (.ret .none)) { s with heap := h', toks := tk' }) :
  codeC (model pw w) (ar dp fr gd un) (.call (.ref 565) ⟨[.ref x, .ref key, .int v tv], []⟩) R s := by
  obtain ⟨d, b, k1, k2, BB, BW, nx, nd, n9⟩ := BS
  obtain ⟨xs, D, rT⟩ := H
  obtain ⟨kka, T, eT, HT⟩ := rT ka kb ha hb2
  clear rT
  refine Tbl.elim HT ?_; intro dT st rs cd cv kq1 kq2 kq3 kq4 vs rvs ns nr ff X₂
  refine' beginC ((x, instObj 582 d) :: (d, skD w (.ref TD) b k1 k2) :: BB) [(Str.ofString "self", .ref x), (Str.ofString "key", .ref key), (Str.ofString "s", .int v tv)] (st := sub 36 1) C k (News.ent O) ?ho ?he ?hcd ?hroom ?hbind ?hsc ?_
  case ho => k_is
  case he => exact rfl
  case hcd => k_is
  case hroom => exact lt_of_add hd
  case hbind => exact rfl
  case hsc => exact rfl
  have hil : i < (ls ka kb).1.length := (List.getElem?_eq_some_iff.mp hv).1
  have hi0 : (0 : Int) ≤ (i : Int) := Int.natCast_nonneg i
  have hlls := X₂.ll
  have hi2 : (i : Int) < 2 ^ (ls ka kb).2 := by rw [← kbt_cast]; exact Int.ofNat_lt.mpr (Nat.lt_trans hil X₂.few)
  have hl16 : (ls ka kb).2 ≤ 16 := hlls.2.1
  intro g L h₁ mean mg mb tk F N X₁ T₁ En C' K
  have e0 := En.ro nkS hkk
  have e1 := K _ _ X₂.oT
  have e2 := K _ _ X₂.oD
  have e3 := DictOfH.keeps D K
  have e4 := HT.keeps K
  clear hlls
  k_extra "k_steps"
  exact ret _ _ _ (.mk d _ _ _ _ (by assumption) (by k_extra "m nqt") (by k_extra "m nqt") (by k_extra "m nq")) (by k_extra "m step")
end
end

theorem words_of_S2 : True := by
  k_with "subscriptTail" => ((k_here; (with_reducible show wpAny _ _ (subscriptTail _ _ (Value.ref _) (Value.ref _)) _ _ _); k_dflt (refine' tab_itemG (by k_asm) (by assumption) (by k_extra "m rd") (by assumption) (by k_extra "m room") ?_); intro kzt))
  k_with "codeC" => (((with_reducible show codeC _ _ (Code.call (Value.ref 565) _) _ _); k_dflt (refine' sk_symbol (by assumption) (by k_extra "m stay") (by k_extra "m room") (by k_extra "m room") (by assumption) (by k_extra "m rd") (by k_extra "m nqt") (by assumption) (by first | assumption | exact Or.inl rfl | exact Or.inr rfl) (by first | assumption | exact Or.inl rfl | exact Or.inr rfl) (by assumption) (by k_extra "m blen") (by k_extra "m own") ?_); intros; k_extra "m upS"))
  exact trivial
section
/-- the size of a number -/
def sz (v : Int) : Nat := if v = 0 then 0 else v.natAbs.log2 + 1
theorem sz_is (v : Int) : Builtin.Int.intBits (if v < 0 then -v else v) = sz v := by
  have e : ∀ u : Int, Builtin.Int.intBits u = sz u := fun u => by
    unfold Builtin.Int.intBits sz
    by_cases h : u = 0
    · subst h; rfl
    · rw [if_neg h, if_neg (by simpa using h)]
  by_cases h : v < 0
  · rw [if_pos h, e]; unfold sz
    rw [Int.natAbs_neg]
    by_cases h0 : v = 0
    · (first | lia | omega)
    · rw [if_neg h0, if_neg (by (first | lia | omega))]
  · rw [if_neg h, e]
theorem sz_le_iff {m : Nat} {v : Int} : sz v ≤ m ↔ v.natAbs < 2 ^ m := by
  unfold sz
  by_cases h : v = 0
  · subst h; simp [Nat.two_pow_pos]
  · rw [if_neg h]
    have := Nat.log2_lt (n := v.natAbs) (k := m) (by (first | lia | omega))
    (first | lia | omega)
theorem sz_hi (v : Int) : v.natAbs < 2 ^ sz v := sz_le_iff.mp (Nat.le_refl _)
theorem sz_lo {v : Int} {n : Nat} (h : sz v = n + 1) : 2 ^ n ≤ v.natAbs := by
  rcases Nat.lt_or_ge v.natAbs (2 ^ n) with q | q
  · have := sz_le_iff.mpr q; (first | lia | omega)
  · exact q
theorem sz_zero {v : Int} : sz v = 0 ↔ v = 0 := by
  unfold sz
  by_cases h : v = 0
  · simp [h]
  · simp [h]
/-- the bits behind the code -/
def bo (v : Int) : Int := if v < 0 then v + 2 ^ sz v - 1 else v
theorem p2n (n : Nat) : ((2 ^ n : Nat) : Int) = (2 : Int) ^ n := kbt_cast n
theorem bo_range (v : Int) : 0 ≤ bo v ∧ bo v < 2 ^ sz v := by
  have h := sz_hi v
  have e := p2n (sz v)
  unfold bo
  split <;> (first | lia | omega)
theorem bo_back (v : Int) : (if 0 < (sz v : Int) ∧ bo v < 2 ^ (sz v - 1) then bo v - 2 ^ sz v + 1 else bo v) = v := by
  have h := sz_hi v
  have e := p2n (sz v)
  rcases Nat.eq_zero_or_pos (sz v) with h0 | h0
  · have hv := sz_zero.mp h0
    subst hv
    rfl
  · obtain ⟨n, hn⟩ := Nat.exists_eq_add_of_lt h0
    have hn' : sz v = n + 1 := by (first | lia | omega)
    have hl := sz_lo hn'
    have e1 := p2n n
    have e2 : (2 : Int) ^ sz v = 2 * 2 ^ n := by rw [hn', Int.pow_succ, Int.mul_comm]
    have e3 : sz v - 1 = n := by (first | lia | omega)
    unfold bo
    rw [e3, e2]
    rw [e2] at e
    split <;> split <;> (first | lia | omega)
theorem sz15 {v : Int} (h : v.natAbs < 32768) : sz v ≤ 15 := sz_le_iff.mpr h
section
variable {w : World} {dp un : Nat} {fr : Option (List Env)} {gd : Option (List Code)} {h₀ : Heap} {s : Shared} {R : Result → Shared → Prop}
theorem categ (C : Stc w h₀) (k : h₀.StaysIn s.heap)
  {v : Int} {tv : Tok} (hd : dp + 1 < recursionLimit) (hu : un + 20 < cLine) (hv : v.natAbs < 32768)
  (ret : ∀ t (h' : Heap) (tk' : Nat), Keep [] s.heap h' → R (.ok (.ret (.int (sz v : Int) t))) { s with heap := h', toks := tk' }) :
  codeAny (model pw w) (ar dp fr gd un) (.call (.ref 313) ⟨[.int v tv], []⟩) R s := by
  refine' begin [] [(Str.ofString "v", .int v tv)] (st := stm 20) C k ?hS ?ho ?he ?hcd ?hroom ?hbind ?hsc ?_
  case hS => k_extra "m ent"
  case ho => k_is
  case he => exact rfl
  case hcd => k_is
  case hroom => (first | lia | omega)
  case hbind => exact rfl
  case hsc => exact rfl
  intro g L h₁ mean mg mb tk F N X₁ T₁ En C' K
  k_extra "k_steps"
  rw [sz_is]
  exact ret _ _ _ (by k_extra "m keep")
theorem bitsof (C : Stc w h₀) (k : h₀.StaysIn s.heap)
  {v : Int} {n : Nat} {tv tn : Tok} (hd : dp + 1 < recursionLimit) (hu : un + 20 < cLine) (hv : v.natAbs < 32768) (hn : n = sz v)
  (ret : ∀ t (h' : Heap) (tk' : Nat), Keep [] s.heap h' → R (.ok (.ret (.int (bo v) t))) { s with heap := h', toks := tk' }) :
  codeAny (model pw w) (ar dp fr gd un) (.call (.ref 320) ⟨[.int v tv, .int n tn], []⟩) R s := by
  refine' begin [] [(Str.ofString "v", .int v tv), (Str.ofString "size", .int n tn)] (st := stm 21) C k ?hS ?ho ?he ?hcd ?hroom ?hbind ?hsc ?_
  case hS => k_extra "m ent"
  case ho => k_is
  case he => exact rfl
  case hcd => k_is
  case hroom => (first | lia | omega)
  case hbind => exact rfl
  case hsc => exact rfl
  have h15 : n ≤ 15 := by rw [hn]; exact sz15 hv
  intro g L h₁ mean mg mb tk F N X₁ T₁ En C' K
  k_extra "k_steps"
  · rw [show v + 2 ^ Int.toNat (n : Int) - 1 = bo v by unfold bo; rw [if_pos (by assumption), hn]; rfl]
    exact ret _ _ _ (by k_extra "m keep")
  · rw [show v = bo v by unfold bo; rw [if_neg (by assumption)]]
    exact ret _ _ _ (by k_extra "m keep")
theorem valueof (C : Stc w h₀) (k : h₀.StaysIn s.heap)
  {v : Int} {n : Nat} {tv tn : Tok} (hd : dp + 1 < recursionLimit) (hu : un + 20 < cLine) (hv : v.natAbs < 32768) (hn : n = sz v)
  (ret : ∀ t (h' : Heap) (tk' : Nat), Keep [] s.heap h' → R (.ok (.ret (.int v t))) { s with heap := h', toks := tk' }) :
  codeAny (model pw w) (ar dp fr gd un) (.call (.ref 327) ⟨[.int (bo v) tv, .int n tn], []⟩) R s := by
  refine' begin [] [(Str.ofString "bits", .int (bo v) tv), (Str.ofString "size", .int n tn)] (st := stm 22) C k ?hS ?ho ?he ?hcd ?hroom ?hbind ?hsc ?_
  case hS => k_extra "m ent"
  case ho => k_is
  case he => exact rfl
  case hcd => k_is
  case hroom => (first | lia | omega)
  case hbind => exact rfl
  case hsc => exact rfl
  have hb := bo_back v
  have hr := bo_range v
  have h15 := sz15 hv
  have hbb : (bo v).natAbs < 1000000 := by
    have e : (2 : Int) ^ sz v ≤ 2 ^ 15 := p2_le h15
    have e2 : (2 : Int) ^ 15 = 32768 := rfl
    (first | lia | omega)
  subst hn
  intro g L h₁ mean mg mb tk F N X₁ T₁ En C' K
  k_extra "k_steps"
  · have h1 : bo v < 2 ^ (sz v - 1) := by
      have q : bo v < 2 ^ Int.toNat ((sz v : Int) - 1) := by assumption
      rw [show Int.toNat ((sz v : Int) - 1) = sz v - 1 by (first | lia | omega)] at q; exact q
    rw [if_pos ⟨by assumption, h1⟩] at hb
    rw [show bo v - 2 ^ Int.toNat (sz v : Int) + 1 = v from hb]
    exact ret _ _ _ (by k_extra "m keep")
  · have h1 : ¬ bo v < 2 ^ (sz v - 1) := by
      have q : ¬ bo v < 2 ^ Int.toNat ((sz v : Int) - 1) := by assumption
      rw [show Int.toNat ((sz v : Int) - 1) = sz v - 1 by (first | lia | omega)] at q; exact q
    rw [if_neg (fun q => h1 q.2)] at hb
    rw [hb]
    exact ret _ _ _ (by k_extra "m keep")
  · rw [if_neg (fun q => absurd q.1 (by assumption))] at hb
    rw [hb]
    exact ret _ _ _ (by k_extra "m keep")
end
end

theorem words_of_Mg : True := by
  k_with "codeAny" => (((with_reducible show codeAny _ _ (Code.call (Value.ref 313) _) _ _); k_dflt (refine' categ (by assumption) (by k_extra "m stay") (by k_extra "m room") (by k_extra "m room") (by first | assumption | omega) ?_); intros; k_extra "m upd0"))
  k_with "codeAny" => (((with_reducible show codeAny _ _ (Code.call (Value.ref 320) _) _ _); k_dflt (refine' bitsof (by assumption) (by k_extra "m stay") (by k_extra "m room") (by k_extra "m room") (by first | assumption | omega) (by first | exact rfl | assumption) ?_); intros; k_extra "m upd0"))
  k_with "codeAny" => (((with_reducible show codeAny _ _ (Code.call (Value.ref 327) _) _ _); k_dflt (refine' valueof (by assumption) (by k_extra "m stay") (by k_extra "m room") (by k_extra "m room") (by first | assumption | omega) (by first | exact rfl | assumption) ?_); intros; k_extra "m upd0"))
  exact trivial
section
theorem Tabs.len {w : World} {h : Heap} {TD : Addr} {ls : Int → Int → List Int × Nat} (H : Tabs w h TD ls) {a b : Int} (ha : a = 0 ∨ a = 1) (hb : b = 0 ∨ b = 1) : (ls a b).2 ≤ 16 := by
  obtain ⟨xs, D, r⟩ := H
  obtain ⟨ka, T, e, HT⟩ := r a b ha hb
  refine Tbl.elim HT ?_; intro _ _ _ _ _ _ _ _ _ _ _ _ _ _ X
  exact X.ll.2.1
section
variable {w : World} {dp un : Nat} {fr : Option (List Env)} {gd : Option (List Code)} {h₀ : Heap} {s : Shared} {R : Result → Shared → Prop}
theorem putnum (C : Stc w h₀) (k : h₀.StaysIn s.heap) {X : Addr}
  {x TD : Addr} {B : List Int} {SB : List (Addr × Obj)} {key : Addr} {ka kb : Int} {ta tb : Tok} {nk : Nat} {ls : Int → Int → List Int × Nat} {v run : Int} {i : Nat} {tv tn : Tok} (hd : dp + 8 < recursionLimit) (hu : un + 120 < cLine) (BS : SinkB w x TD B SB) (hkk : s.heap.get? key = some (tupOf [.int ka ta, .int kb tb] nk)) (nkS : NqL key (SB.map (·.1))) (H : Tabs w h₀ TD ls) (ha : ka = 0 ∨ ka = 1) (hb2 : kb = 0 ∨ kb = 1) (hl : B.length ≤ 70000) (hr : 0 ≤ run ∧ run ≤ 15) (hv : v.natAbs < 32768) (hi : (ls ka kb).1[i]? = some (16 * run + sz v)) (O : News h₀ X s.heap (SB))
  (ret : ∀ SB' (h' : Heap) (tk' : Nat), SinkB w x TD (B ++ fig (i : Int) (ls ka kb).2 ++ fig (bo v) (sz v)) SB' → Step X s.heap h' (SB) (SB') → R (.ok (.ret .none)) { s with heap := h', toks := tk' }) :
  codeC (model pw w) (ar dp fr gd un) (.call (.ref 453) ⟨[.ref x, .ref key, .int run tn, .int v tv], []⟩) R s := by
  refine' beginC (SB) [(Str.ofString "sink", .ref x), (Str.ofString "key", .ref key), (Str.ofString "run", .int run tn), (Str.ofString "v", .int v tv)] (st := stm 32) C k (News.ent O) ?ho ?he ?hcd ?hroom ?hbind ?hsc ?_
  case ho => k_is
  case he => exact rfl
  case hcd => k_is
  case hroom => exact lt_of_add hd
  case hbind => exact rfl
  case hsc => exact rfl
  have h15 := sz15 hv
  have h16 : sz v ≤ 16 := Nat.le_trans h15 (by decide)
  have hbo := (bo_range v).1
  have hbo' := (bo_range v).2
  have hll : (ls ka kb).2 ≤ 16 := H.len ha hb2
  intro g L h₁ mean mg mb tk F N X₁ T₁ En C' K
  have e0 := En.ro nkS hkk
  have e4 := H.keeps K
  k_extra "k_steps"
  exact ret _ _ _ (by assumption) (by k_extra "m step")
end
end

theorem words_of_P2 : True := by
  k_with "codeC" => (((with_reducible show codeC _ _ (Code.call (Value.ref 453) _) _ _); k_dflt (refine' putnum (by assumption) (by k_extra "m stay") (by k_extra "m room") (by k_extra "m room") (by assumption) (by k_extra "m rd") (by k_extra "m nqt") (by assumption) (by first | assumption | exact Or.inl rfl | exact Or.inr rfl) (by first | assumption | exact Or.inl rfl | exact Or.inr rfl) (by k_extra "m blen") (by first | assumption | omega) (by first | assumption | omega) (by assumption) (by k_extra "m own") ?_); intros; k_extra "m upS"))
  exact trivial
section
namespace G_W1
theorem in_W1 : True := trivial
end G_W1
open G_W1
abbrev scD (w : World) (pl dl al : Addr) (en : Int) (low : Nat) (k1 k2 k3 k4 k5 k6 k7 t1 t2 t3 t4 : Tok) : Obj := dictOf [⟨PyData.keyHash w.params "places", .str "places" k1, .ref pl⟩, ⟨PyData.keyHash w.params "dc_slots", .str "dc_slots" k2, .ref dl⟩, ⟨PyData.keyHash w.params "ac_slots", .str "ac_slots" k3, .ref al⟩, ⟨PyData.keyHash w.params "start", .str "start" k4, .int 0 t1⟩, ⟨PyData.keyHash w.params "end", .str "end" k5, .int en t2⟩, ⟨PyData.keyHash w.params "high", .str "high" k6, .int 0 t3⟩, ⟨PyData.keyHash w.params "low", .str "low" k7, .int low t4⟩] 7
structure ScanX (w : World) (h : Heap) (sc dsc pl dl al : Addr) (k1 k2 k3 k4 k5 k6 k7 t1 t2 t3 t4 : Tok) (pvs dvs avs : List Value) (np nd na : Nat) (many : Nat) (ds as : Nat → Int) (en : Int) (low : Nat) : Prop where
  oS : h.get? sc = some (instObj 442 dsc)
  oD : h.get? dsc = some (scD w pl dl al en low k1 k2 k3 k4 k5 k6 k7 t1 t2 t3 t4)
  oP : h.get? pl = some (listOf pvs.toArray np)
  oDl : h.get? dl = some (listOf dvs.toArray nd)
  oAl : h.get? al = some (listOf avs.toArray na)
  lP : pvs.length = many
  lD : dvs.length = many
  lA : avs.length = many
  d : ∀ i, i < many → ∃ t, dvs[i]? = some (.int (ds i) t)
  a : ∀ i, i < many → ∃ t, avs[i]? = some (.int (as i) t)
  m : 0 < many ∧ many ≤ 3
  d01 : ∀ i, ds i = 0 ∨ ds i = 1
  a01 : ∀ i, as i = 0 ∨ as i = 1
inductive ScanAt (w : World) (h : Heap) (sc : Addr) (many : Nat) (ds as : Nat → Int) (en : Int) (low : Nat) : Prop
  | mk (dsc pl dl al : Addr) (k1 k2 k3 k4 k5 k6 k7 t1 t2 t3 t4 : Tok) (pvs dvs avs : List Value) (np nd na : Nat) (X : ScanX w h sc dsc pl dl al k1 k2 k3 k4 k5 k6 k7 t1 t2 t3 t4 pvs dvs avs np nd na many ds as en low) : ScanAt w h sc many ds as en low
theorem ScanAt.keeps {w : World} {h h' : Heap} {sc : Addr} {many : Nat} {ds as : Nat → Int} {en : Int} {low : Nat} (x : ScanAt w h sc many ds as en low) (k : h.StaysIn h') : ScanAt w h' sc many ds as en low := by
  obtain ⟨dsc, pl, dl, al, k1, k2, k3, k4, k5, k6, k7, t1, t2, t3, t4, pvs, dvs, avs, np, nd, na, X⟩ := x
  exact ⟨dsc, pl, dl, al, k1, k2, k3, k4, k5, k6, k7, t1, t2, t3, t4, pvs, dvs, avs, np, nd, na, k _ _ X.oS, k _ _ X.oD, k _ _ X.oP, k _ _ X.oDl, k _ _ X.oAl, X.lP, X.lD, X.lA, X.d, X.a, X.m, X.d01, X.a01⟩
theorem ScanAt.elim {w : World} {h : Heap} {sc : Addr} {many : Nat} {ds as : Nat → Int} {en : Int} {low : Nat} {G : Prop} (x : ScanAt w h sc many ds as en low)
    (k : ∀ dsc pl dl al k1 k2 k3 k4 k5 k6 k7 t1 t2 t3 t4 pvs dvs avs np nd na, ScanX w h sc dsc pl dl al k1 k2 k3 k4 k5 k6 k7 t1 t2 t3 t4 pvs dvs avs np nd na many ds as en low → G) : G :=
  ScanAt.casesOn (motive := fun _ => G) x k
theorem lst_base {g h : Heap} {L t : Addr} {m : Str → Option Value} {vs : List Value} {n : Nat} (F : Fr g L h m) (e : g.get? t = some (listOf vs.toArray n)) : h.IsList t vs.toArray := ⟨_, F.keep _ _ e, rfl, n, rfl⟩
section
variable {prog : Program} {w : World} {A : Around} {E : Value → Shared → Prop} {s : Shared} {g : Heap} {L : Addr} {m : Str → Option Value}
theorem lst_itemB {value slice : Expr} {t : Addr} {vs : List Value} {n : Nat} {u : Tok} {j : Nat} {x : Value} {Q : Value → Shared → Prop} (F : Fr g L s.heap m) (e : g.get? t = some (listOf vs.toArray n)) (hx : vs[j]? = some x) (hj : j < 1000000) (h : Q x s)
    (hs : subscripted slice false (.ref t) (.int (j : Int) u) = operate [.ref t, .int (j : Int) u] (getItem (.ref t) (.int (j : Int) u)) := by with_unfolding_all rfl) :
    wpAny (model prog w) A (subscriptTail value slice (.ref t) (.int (j : Int) u)) Q E s :=
  tail_any (lst_base F e).typeIs slot_list_getitem.lookup (wpAny_getItem_list (lst_base F e) (Int.natCast_nonneg j) (by (first | lia | omega)) (by simpa using hx) h) hs
theorem len_listB {t : Addr} {vs : List Value} {n k : Nat} {Q : Value → Shared → Prop} (F : Fr g L s.heap m) (e : g.get? t = some (listOf vs.toArray n)) (hl : vs.length = k) (hk : k < 1000000) (h : ∀ u tk, Q (.int (k : Int) u) { s with toks := tk }) :
    wpAny (model prog w) A (call (.builtin "len") [.ref t]) Q E s :=
  Calls.call_len_list (lst_base F e) (by simp; (first | lia | omega)) (by have := h (s.toks + 1) (s.toks + 1 + 1); simpa [hl] using this)
theorem lst_itemN {value slice : Expr} {t : Addr} {vs : List Value} {n : Nat} {u : Tok} {j : Nat} {x : Value} {news : List (Addr × Obj)} {Q : Value → Shared → Prop} (N : News g L s.heap news) (hm : (t, listOf vs.toArray n) ∈ news) (hx : vs[j]? = some x) (hj : j < 1000000) (h : Q x s)
    (hs : subscripted slice false (.ref t) (.int (j : Int) u) = operate [.ref t, .int (j : Int) u] (getItem (.ref t) (.int (j : Int) u)) := by with_unfolding_all rfl) :
    wpAny (model prog w) A (subscriptTail value slice (.ref t) (.int (j : Int) u)) Q E s :=
  have hl : s.heap.IsList t vs.toArray := ⟨_, (N _ hm).1, rfl, n, rfl⟩
  tail_any hl.typeIs slot_list_getitem.lookup (wpAny_getItem_list hl (Int.natCast_nonneg j) (by (first | lia | omega)) (by simpa using hx) h) hs
theorem lst_itemK {value slice : Expr} {t : Addr} {vs : List Value} {n : Nat} {u : Tok} {k : Int} {x : Value} {news : List (Addr × Obj)} {Q : Value → Shared → Prop} (N : News g L s.heap news) (hm : (t, listOf vs.toArray n) ∈ news) (h0 : 0 ≤ k) (hk : k < 1000000) (hx : vs[k.toNat]? = some x) (h : Q x s)
    (hs : subscripted slice false (.ref t) (.int k u) = operate [.ref t, .int k u] (getItem (.ref t) (.int k u)) := by with_unfolding_all rfl) :
    wpAny (model prog w) A (subscriptTail value slice (.ref t) (.int k u)) Q E s :=
  have hl : s.heap.IsList t vs.toArray := ⟨_, (N _ hm).1, rfl, n, rfl⟩
  tail_any hl.typeIs slot_list_getitem.lookup (wpAny_getItem_list hl h0 (by (first | lia | omega)) (by simpa using hx) h) hs
theorem zer_get {n i : Nat} {v : Value} (h : i < n) : (List.replicate (Int.toNat ((n : Nat) : Int)) [v]).flatten[i]? = some v := by
  have e : (List.replicate (Int.toNat ((n : Nat) : Int)) [v]).flatten = List.replicate n v := by simp
  rw [e, List.getElem?_replicate, if_pos h]
theorem zer_ints {n : Nat} {t : Tok} : IntsAre (List.replicate (Int.toNat ((n : Nat) : Int)) [Value.int 0 t]).flatten (List.replicate n 0) := by
  have e : (List.replicate (Int.toNat ((n : Nat) : Int)) [Value.int 0 t]).flatten = List.replicate n (Value.int 0 t) := by simp
  rw [e]
  induction n with
  | zero => exact .nil
  | succ n ih => exact .cons 0 t (ih (by simp))
end
theorem line_20 : True := by
  k_with "call builtin:len" => (guard_expr in_W1 =~ in_W1; (k_here; k_dflt (refine' len_listB (by k_asm) (by assumption) (by assumption) (by (first | lia | omega)) ?_); intro kzu kzt))
  exact trivial
theorem line_21 : True := by
  k_with "subscriptTail" => (guard_expr in_W1 =~ in_W1; (k_here; (with_reducible show wpAny _ _ (subscriptTail _ _ (Value.ref _) (Value.int _ _)) _ _ _); k_dflt (refine' lst_itemB (by k_asm) (by assumption) (by assumption) (by (first | lia | omega)) ?_)))
  exact trivial
abbrev dcwD (w : World) (sc x bl : Addr) (k1 k2 k3 : Tok) : Obj := dictOf [⟨PyData.keyHash w.params "scan", .str "scan" k1, .ref sc⟩, ⟨PyData.keyHash w.params "sink", .str "sink" k2, .ref x⟩, ⟨PyData.keyHash w.params "before", .str "before" k3, .ref bl⟩] 3
abbrev sqwD (w : World) (sc x bl : Addr) (k1 k2 k3 k4 t4 : Tok) : Obj := dictOf [⟨PyData.keyHash w.params "scan", .str "scan" k1, .ref sc⟩, ⟨PyData.keyHash w.params "many", .str "many" k2, .int 4 t4⟩, ⟨PyData.keyHash w.params "sink", .str "sink" k3, .ref x⟩, ⟨PyData.keyHash w.params "before", .str "before" k4, .ref bl⟩] 4
section
variable {w : World} {dp un : Nat} {fr : Option (List Env)} {gd : Option (List Code)} {h₀ : Heap} {s : Shared} {R : Result → Shared → Prop}
theorem dcw_start (C : Stc w h₀) (k : h₀.StaysIn s.heap) {X : Addr}
  {y dy sc x bl : Addr} {j1 j2 j3 : Tok} {many : Nat} {ds as : Nat → Int} {en : Int} {low : Nat} (hd : dp + 2 < recursionLimit) (hu : un + 20 < cLine) (O : News h₀ X s.heap ([(y, instObj 365 dy), (dy, dcwD w sc x bl j1 j2 j3)])) (n9 : Nq y dy) (hsc : ScanAt w h₀ sc many ds as en low)
  (ret : ∀ bl' j1' j2' j3' (h' : Heap) (tk' : Nat), Step X s.heap h' ([(y, instObj 365 dy), (dy, dcwD w sc x bl j1 j2 j3)]) ([(y, instObj 365 dy), (dy, dcwD w sc x bl' j1' j2' j3')]) → R (.ok (.ret .none)) { s with heap := h', toks := tk' }) :
  codeAny (model pw w) (ar dp fr gd un) (.call (.ref 348) ⟨[.ref y], []⟩) R s := by
  refine ScanAt.elim hsc ?_; intro dsc pl dl al q1 q2 q3 q4 q5 q6 q7 u1 u2 u3 u4 pvs dvs avs np nd na X₂
  refine' begin ([(y, instObj 365 dy), (dy, dcwD w sc x bl j1 j2 j3)]) [(Str.ofString "self", .ref y)] (st := sub 25 1) C k (News.ent O) ?ho ?he ?hcd ?hroom ?hbind ?hsc ?_
  case ho => k_is
  case he => exact rfl
  case hcd => k_is
  case hroom => exact lt_of_add hd
  case hbind => exact rfl
  case hsc => exact rfl
  intro g L h₁ mean mg mb tk F N X₁ T₁ En C' K
  have e1 := K _ _ X₂.oS
  have e2 := K _ _ X₂.oD
  have e3 := K _ _ X₂.oP
  have e4 := K _ _ X₂.oDl
  have e5 := K _ _ X₂.oAl
  have e6 := X₂.lP
  have e7 := X₂.m
  k_extra "k_steps"
  exact ret _ _ _ _ _ _ (by k_extra "m step")
theorem sqw_start (C : Stc w h₀) (k : h₀.StaysIn s.heap) {X : Addr}
  {y dy sc x bl : Addr} {j1 j2 j3 j4 t4 : Tok} {many : Nat} {ds as : Nat → Int} {en : Int} {low : Nat} (hd : dp + 2 < recursionLimit) (hu : un + 20 < cLine) (O : News h₀ X s.heap ([(y, instObj 491 dy), (dy, sqwD w sc x bl j1 j2 j3 j4 t4)])) (n9 : Nq y dy) (hsc : ScanAt w h₀ sc many ds as en low)
  (ret : ∀ bl' j1' j2' j3' j4' (h' : Heap) (tk' : Nat), Step X s.heap h' ([(y, instObj 491 dy), (dy, sqwD w sc x bl j1 j2 j3 j4 t4)]) ([(y, instObj 491 dy), (dy, sqwD w sc x bl' j1' j2' j3' j4' t4)]) → R (.ok (.ret .none)) { s with heap := h', toks := tk' }) :
  codeAny (model pw w) (ar dp fr gd un) (.call (.ref 474) ⟨[.ref y], []⟩) R s := by
  refine ScanAt.elim hsc ?_; intro dsc pl dl al q1 q2 q3 q4 q5 q6 q7 u1 u2 u3 u4 pvs dvs avs np nd na X₂
  refine' begin ([(y, instObj 491 dy), (dy, sqwD w sc x bl j1 j2 j3 j4 t4)]) [(Str.ofString "self", .ref y)] (st := sub 33 1) C k (News.ent O) ?ho ?he ?hcd ?hroom ?hbind ?hsc ?_
  case ho => k_is
  case he => exact rfl
  case hcd => k_is
  case hroom => exact lt_of_add hd
  case hbind => exact rfl
  case hsc => exact rfl
  intro g L h₁ mean mg mb tk F N X₁ T₁ En C' K
  have e1 := K _ _ X₂.oS
  have e2 := K _ _ X₂.oD
  have e3 := K _ _ X₂.oP
  have e4 := K _ _ X₂.oDl
  have e5 := K _ _ X₂.oAl
  have e6 := X₂.lP
  have e7 := X₂.m
  have e8 := X₂.lD
  k_extra "k_steps"
  exact ret _ _ _ _ _ _ _ (by k_extra "m step")
end
end

theorem words_of_W1 : True := by
  k_with "call builtin:len" => ((k_here; k_dflt (refine' len_listB (by k_asm) (by assumption) (by assumption) (by (first | lia | omega)) ?_); intro kzu kzt))
  k_with "subscriptTail" => ((k_here; (with_reducible show wpAny _ _ (subscriptTail _ _ (Value.ref _) (Value.int _ _)) _ _ _); k_dflt (refine' lst_itemB (by k_asm) (by assumption) (by assumption) (by (first | lia | omega)) ?_)))
  k_with "subscriptTail" => ((k_here; (with_reducible show wpAny _ _ (subscriptTail _ _ (Value.ref _) (Value.int _ _)) _ _ _); k_dflt (first | (refine' lst_itemN (by k_asm) (by k_mem) (by assumption) (by (first | lia | omega)) ?_) | (refine' lst_itemK (by k_asm) (by k_mem) (by decide) (by decide) (by exact rfl) ?_))))
  k_with "subscriptTail Name Name ref int" => ((k_here; (with_reducible show wpAny _ _ (subscriptTail _ _ (Value.ref _) (Value.int _ _)) _ _ _); k_dflt (refine' lst_itemN (by k_asm) (by k_mem) (by assumption) (by (first | lia | omega)) ?_)))
  k_with "subscriptTail Name Constant ref int" => ((k_here; (with_reducible show wpAny _ _ (subscriptTail _ _ (Value.ref _) (Value.int _ _)) _ _ _); k_dflt (refine' lst_itemK (by k_asm) (by k_mem) (by decide) (by decide) (by exact rfl) ?_)))
  k_with "binaryOp Sub int int" => ((k_here; (with_reducible refine sub_as (Int.sub_zero _) ?_)))
  k_with "setItem ref int" => ((k_here; (with_reducible show wpAny _ _ (setItem (Value.ref _) (Value.int _ _) (Value.int _ _)) _ _ _); k_dflt (refine' ksa_set (by k_asm) (by k_asm) (by k_upd) (by with_reducible assumption) (by (first | lia | omega)) (by first | omega | (simp only [List.length_replicate, List.length_set]; (first | lia | omega))) (by (first | lia | omega)) ?_); intro kzh kzF kzN _ _ _; (try k_sweep)))
  k_with "codeAny" => (((with_reducible show codeAny _ _ (Code.call (Value.ref 348) _) _ _); k_dflt (refine' dcw_start (by assumption) (by k_extra "m stay") (by k_extra "m room") (by k_extra "m room") (by k_extra "m own") (by k_extra "m nq") (by assumption) ?_); intros; k_extra "m upS"))
  k_with "codeAny" => (((with_reducible show codeAny _ _ (Code.call (Value.ref 474) _) _ _); k_dflt (refine' sqw_start (by assumption) (by k_extra "m stay") (by k_extra "m room") (by k_extra "m room") (by k_extra "m own") (by k_extra "m nq") (by assumption) ?_); intros; k_extra "m upS"))
  exact trivial
section
namespace G_W2
theorem in_W2 : True := trivial
end G_W2
open G_W2
/-- the code of one number: its symbol's place, then its bits -/
def cod (ls : Int → Int → List Int × Nat) (a b run v : Int) : List Int := fig ((((ls a b).1.idxOf (16 * run + sz v) : Nat)) : Int) (ls a b).2 ++ fig (bo v) (sz v)
structure Cover (ls : Int → Int → List Int × Nat) : Prop where
  dc : ∀ b v, (b = 0 ∨ b = 1) → v.natAbs ≤ 31 → (16 * 0 + sz v : Int) ∈ (ls 0 b).1
  ac : ∀ b run v, (b = 0 ∨ b = 1) → 0 ≤ run → run ≤ 2 → v ≠ 0 → v.natAbs ≤ 31 → (16 * run + sz v : Int) ∈ (ls 1 b).1
  ac0 : ∀ b, (b = 0 ∨ b = 1) → (0 : Int) ∈ (ls 1 b).1
  len : ∀ a b, (ls a b).2 ≤ 8
  lay : ∀ a b, PyData.layable0 (.list ((ls a b).1.map .int)) = true
theorem fdiv_small {r : Int} {k : Nat} {n : Nat} (h : r.natAbs ≤ n) : (r.fdiv (2 ^ k)).natAbs ≤ n := Nat.le_trans (PySem.natAbs_fdiv_le r (2 ^ k)) h
theorem idx_get {l : List Int} {v : Int} (h : v ∈ l) : l[l.idxOf v]? = some v := by
  have hl := List.idxOf_lt_length_of_mem h
  rw [List.getElem?_eq_getElem hl, List.getElem_idxOf hl]
theorem cod_len {ls : Int → Int → List Int × Nat} (V : Cover ls) (a b run : Int) {v : Int} (hv : v.natAbs ≤ 31) : (cod ls a b run v).length ≤ 13 := by
  have h1 := V.len a b
  have h2 : sz v ≤ 5 := sz_le_iff.mpr (by (first | lia | omega))
  simp only [cod, List.length_append, fig_length]; (first | lia | omega)
theorem lst_itemKB {prog : Program} {w : World} {A : Around} {E : Value → Shared → Prop} {s : Shared} {g : Heap} {L : Addr} {m : Str → Option Value} {value slice : Expr} {t : Addr} {vs : List Value} {n : Nat} {u : Tok} {k : Int} {x : Value} {Q : Value → Shared → Prop} (F : Fr g L s.heap m) (e : g.get? t = some (listOf vs.toArray n)) (h0 : 0 ≤ k) (hk : k < 1000000) (hx : vs[k.toNat]? = some x) (h : Q x s)
    (hs : subscripted slice false (.ref t) (.int k u) = operate [.ref t, .int k u] (getItem (.ref t) (.int k u)) := by with_unfolding_all rfl) :
    wpAny (model prog w) A (subscriptTail value slice (.ref t) (.int k u)) Q E s :=
  tail_any (lst_base F e).typeIs slot_list_getitem.lookup (wpAny_getItem_list (lst_base F e) h0 (by (first | lia | omega)) (by simpa using hx) h) hs
theorem rshift_as {prog : Program} {w : World} {A : Around} {E : Value → Shared → Prop} {h : Heap} {gs : Array GenState} {dr : Drawn} {tk : Nat} {os : OsState} {a n c : Int} {t u : Tok} {Q : Value → Shared → Prop} (hn : 0 ≤ n) (e : a.fdiv (2 ^ n.toNat) = c) (hq : Q (.int c tk) ⟨h, gs, dr, tk + 1, os⟩) : wpAny (model prog w) A (binaryOp .RShift (.int a t) (.int n u)) Q E ⟨h, gs, dr, tk, os⟩ :=
  rshift_int hn (by rw [e]; exact hq)
theorem line_22 : True := by
  k_with "binaryOp RShift int int" => (guard_expr in_W2 =~ in_W2; (k_here; refine rshift_as (Int.natCast_nonneg _) (by with_reducible assumption) ?_))
  exact trivial
theorem line_23 : True := by
  k_with "subscriptTail Name Constant ref int" => (guard_expr in_W2 =~ in_W2; (k_here; (with_reducible show wpAny _ _ (subscriptTail _ _ (Value.ref _) (Value.int _ _)) _ _ _); k_dflt (refine' lst_itemKB (by k_asm) (by with_reducible assumption) (by decide) (by decide) (by exact rfl) ?_)))
  exact trivial
section
variable {w : World} {dp un : Nat} {fr : Option (List Env)} {gd : Option (List Code)} {h₀ : Heap} {s : Shared} {R : Result → Shared → Prop}
theorem dcw_code (C : Stc w h₀) (k : h₀.StaysIn s.heap) {X : Addr}
  {y dy sc x bl TD : Addr} {B : List Int} {SB : List (Addr × Obj)} {ls : Int → Int → List Int × Nat} {t0 tp : Tok} {nb : Nat} {many p low : Nat} {ds as : Nat → Int} {en : Int} {j1 j2 j3 : Tok} {row : Addr} {r0 r1 r2 r3 : Int} {v0 v1 v2 v3 : Tok} {nr : Nat} (hd : dp + 10 < recursionLimit) (hu : un + 150 < cLine) (BS : SinkB w x TD B SB) (O : News h₀ X s.heap ((y, instObj 365 dy) :: (dy, dcwD w sc x bl j1 j2 j3) :: (bl, listOf (List.replicate (Int.toNat ((many : Nat) : Int)) [Value.int 0 t0]).flatten.toArray nb) :: SB)) (A : Apt [y, dy, bl] (SB.map (·.1))) (n1 : Nq y dy) (n2 : Nq y bl) (n3 : Nq dy bl) (H : Tabs w h₀ TD ls) (hl : B.length ≤ 60000) (hrow : s.heap.get? row = some (listOf #[.int r0 v0, .int r1 v1, .int r2 v2, .int r3 v3] nr)) (nrow : NqL row (((y, instObj 365 dy) :: (dy, dcwD w sc x bl j1 j2 j3) :: (bl, listOf (List.replicate (Int.toNat ((many : Nat) : Int)) [Value.int 0 t0]).flatten.toArray nb) :: SB).map (·.1))) (hsc : ScanAt w h₀ sc many ds as en low) (hp : p < many) (V : Cover ls) (hr0 : r0.natAbs ≤ 31)
  (ret : ∀ SB' (h' : Heap) (tk' : Nat), SinkB w x TD (B ++ cod ls 0 (ds p) 0 (r0.fdiv (2 ^ Int.toNat ((low : Nat) : Int)))) SB' → Apt [y, dy] (SB'.map (·.1)) → Step X s.heap h' ((y, instObj 365 dy) :: (dy, dcwD w sc x bl j1 j2 j3) :: (bl, listOf (List.replicate (Int.toNat ((many : Nat) : Int)) [Value.int 0 t0]).flatten.toArray nb) :: SB) ((y, instObj 365 dy) :: (dy, dcwD w sc x bl j1 j2 j3) :: SB') → R (.ok (.ret .none)) { s with heap := h', toks := tk' }) :
  codeC (model pw w) (ar dp fr gd un) (.call (.ref 355) ⟨[.ref y, .int p tp, .ref row], []⟩) R s := by
  refine ScanAt.elim hsc ?_; intro dsc pl dl al q1 q2 q3 q4 q5 q6 q7 u1 u2 u3 u4 pvs dvs avs np nd na X₂
  refine' beginC ((y, instObj 365 dy) :: (dy, dcwD w sc x bl j1 j2 j3) :: (bl, listOf (List.replicate (Int.toNat ((many : Nat) : Int)) [Value.int 0 t0]).flatten.toArray nb) :: SB) [(Str.ofString "self", .ref y), (Str.ofString "place", .int p tp), (Str.ofString "row", .ref row)] (st := sub 25 2) C k (News.ent O) ?ho ?he ?hcd ?hroom ?hbind ?hsc ?_
  case ho => k_is
  case he => exact rfl
  case hcd => k_is
  case hroom => exact lt_of_add hd
  case hbind => exact rfl
  case hsc => exact rfl
  have e8 := X₂.d01 p
  obtain ⟨tds, e9⟩ := X₂.d p hp
  have hq : (r0.fdiv (2 ^ Int.toNat ((low : Nat) : Int))).natAbs ≤ 31 := fdiv_small hr0
  generalize hv9 : r0.fdiv (2 ^ Int.toNat ((low : Nat) : Int)) = v9 at hq ret
  have hi := idx_get (V.dc (ds p) v9 e8 hq)
  rw [Int.mul_zero, Int.zero_add] at hi
  have hln := V.len 0 (ds p)
  have hs5 : sz v9 ≤ 5 := sz_le_iff.mpr (Nat.lt_of_le_of_lt hq (by decide))
  have hbo := (bo_range v9).1
  have hbo' := (bo_range v9).2
  have e12 := zer_ints (n := many) (t := t0)
  have e11 := zer_get (v := Value.int 0 t0) hp
  have ec : cod ls 0 (ds p) 0 v9 = fig ((((ls 0 (ds p)).1.idxOf (sz v9 : Int) : Nat)) : Int) (ls 0 (ds p)).2 ++ fig (bo v9) (sz v9) := by
    unfold cod; rw [Int.mul_zero, Int.zero_add]
  rw [ec, ← List.append_assoc] at ret
  have h326 : v9.natAbs < 32768 := Nat.lt_of_le_of_lt hq (by decide)
  have hs16 : sz v9 ≤ 16 := Nat.le_trans hs5 (by decide)
  intro g L h₁ mean mg mb tk F N X₁ T₁ En C' K
  have e1 := K _ _ X₂.oS
  have e2 := K _ _ X₂.oD
  have e3 := K _ _ X₂.oP
  have e4 := K _ _ X₂.oDl
  have e5 := K _ _ X₂.oAl
  have e6 := X₂.lP
  have e7 := X₂.m
  have e10 := H.keeps K
  have e13 := En.ro nrow hrow
  k_extra "k_steps"
  · exact ret _ _ _ (by assumption) (by k_extra "m apt") (by k_extra "m step")
  · rename ¬ _ => h0
    have h0 : sz v9 = 0 := by (first | lia | omega)
    have h1 : fig (bo v9) (sz v9) = [] := by rw [h0]; rfl
    rw [h1, List.append_nil] at ret
    exact ret _ _ _ (by assumption) (by k_extra "m apt") (by k_extra "m step")
end
end

theorem words_of_W2 : True := by
  k_with "subscriptTail Name Constant ref int" => ((k_here; (with_reducible show wpAny _ _ (subscriptTail _ _ (Value.ref _) (Value.int _ _)) _ _ _); k_dflt (refine' lst_itemKB (by k_asm) (by with_reducible assumption) (by decide) (by decide) (by exact rfl) ?_)))
  k_with "codeC" => (((with_reducible show codeC _ _ (Code.call (Value.ref 355) _) _ _); k_dflt (refine' dcw_code (by assumption) (by k_extra "m stay") (by k_extra "m room") (by k_extra "m room") (by assumption) (by k_extra "m own") (by k_extra "m apt") (by k_extra "m nq") (by k_extra "m nq") (by k_extra "m nq") (by assumption) (by k_extra "m blen") (by k_extra "m rd") (by k_extra "m nqs") (by assumption) (by assumption) (by assumption) (by assumption) ?_); intros; k_extra "m upS"))
  exact trivial
section
namespace G_W3
theorem in_W3 : True := trivial
end G_W3
open G_W3
/-- the codes of a block's other numbers, by runs -/
def acGo (ls : Int → Int → List Int × Nat) (b : Int) (st : List Int × Int) (v : Int) : List Int × Int := if v = 0 then (st.1, st.2 + 1) else (st.1 ++ cod ls 1 b st.2 v, 0)
theorem row_at {r0 r1 r2 r3 : Int} {v0 v1 v2 v3 : Tok} {n : Nat} (h1 : r1.natAbs ≤ n) (h2 : r2.natAbs ≤ n) (h3 : r3.natAbs ≤ n) {i : Nat} (h : i < 3) :
    ∃ rk vk, ([.int r0 v0, .int r1 v1, .int r2 v2, .int r3 v3] : List Value)[i + 1]? = some (.int rk vk) ∧ [r1, r2, r3][i]? = some rk ∧ rk.natAbs ≤ n := by
  match i, h with
  | 0, _ => exact ⟨_, _, rfl, rfl, h1⟩
  | 1, _ => exact ⟨_, _, rfl, rfl, h2⟩
  | 2, _ => exact ⟨_, _, rfl, rfl, h3⟩
theorem c_while_skip {prog : Program} {w : World} {A : Around} {s : Shared} {env : Env} {test : Expr} {body orelse : List Stmt} {pos : Pos} {Q : Flow → Shared → Prop}
    (h : wpAny (model prog w) A (isTrue test env (eval test env)) (fun b s₂ => b = false ∧ wpC (model prog w) A (execs orelse env) Q s₂) NoX s) : wpC (model prog w) A (exec (.While test body orelse pos) env) Q s := by
  rw [exec_While]
  refine wpC_lbind (wpAny_standAt ?_)
  unfold runOwn
  refine wpC_onRaise (wpC_run ?_)
  refine codeC_of_tree rfl ?_
  show wpC _ A ((whileTurn test body orelse env).onRaise (fun x => do noteFrame x env; theTreesLotGoes x)) _ _
  refine wpC_onRaise ?_
  simp only [whileTurn]
  refine wpC_lbind (wpAny_mono h (fun b s₂ hb => ?_) fun _ _ e => e)
  obtain ⟨rfl, hb⟩ := hb
  simp only [Bool.false_eq_true, if_false]
  exact wpC_bind (wpC_mono hb fun f s₃ h₃ => wpC_pure h₃)
theorem acs_turn (ls : Int → Int → List Int × Nat) (b : Int) (vs : List Int) {i : Nat} {v : Int} (h : vs[i]? = some v) : (vs.take (i + 1)).foldl (acGo ls b) ([], 0) = acGo ls b ((vs.take i).foldl (acGo ls b) ([], 0)) v := by
  rw [List.take_add_one, h, List.foldl_append]; rfl
def acs (ls : Int → Int → List Int × Nat) (b : Int) (vs : List Int) : List Int :=
  (vs.foldl (acGo ls b) ([], 0)).1 ++ (if (vs.foldl (acGo ls b) ([], 0)).2 > 0 then fig (((ls 1 b).1.idxOf 0 : Nat) : Int) (ls 1 b).2 else [])
theorem line_24 : True := by
  k_with "wpC" => (guard_expr in_W3 =~ in_W3; ((with_reducible show wpC _ _ (exec (Stmt.While _ _ _ _) _) _ _); k_dflt (refine c_while_skip ?_)))
  exact trivial
theorem line_25 : True := by
  k_with "And" => (guard_expr in_W3 =~ in_W3; refine And.intro (decide_eq_false (by (first | lia | omega))) ?_)
  exact trivial
theorem cod_app {B : List Int} {ls : Int → Int → List Int × Nat} {a b run v : Int} : B ++ fig ((((ls a b).1.idxOf (16 * run + sz v) : Nat)) : Int) (ls a b).2 ++ fig (bo v) (sz v) = B ++ cod ls a b run v := List.append_assoc _ _ _
section
variable {w : World} {dp un : Nat} {fr : Option (List Env)} {gd : Option (List Code)} {h₀ : Heap} {s : Shared} {R : Result → Shared → Prop}
theorem sqw_code (C : Stc w h₀) (k : h₀.StaysIn s.heap) {X : Addr}
  {y dy sc x bl TD : Addr} {B : List Int} {SB : List (Addr × Obj)} {ls : Int → Int → List Int × Nat} {t0 tp : Tok} {nb : Nat} {many p low : Nat} {ds as : Nat → Int} {en : Int} {j1 j2 j3 j4 t4 : Tok} {row : Addr} {r0 r1 r2 r3 : Int} {v0 v1 v2 v3 : Tok} {nr : Nat} (hd : dp + 12 < recursionLimit) (hu : un + 170 < cLine) (BS : SinkB w x TD B SB) (O : News h₀ X s.heap ((y, instObj 491 dy) :: (dy, sqwD w sc x bl j1 j2 j3 j4 t4) :: (bl, listOf (List.replicate (Int.toNat ((many : Nat) : Int)) [Value.int 0 t0]).flatten.toArray nb) :: SB)) (A : Apt [y, dy, bl] (SB.map (·.1))) (n1 : Nq y dy) (n2 : Nq y bl) (n3 : Nq dy bl) (H : Tabs w h₀ TD ls) (hl : B.length ≤ 60000) (hrow : s.heap.get? row = some (listOf #[.int r0 v0, .int r1 v1, .int r2 v2, .int r3 v3] nr)) (nrow : NqL row (((y, instObj 491 dy) :: (dy, sqwD w sc x bl j1 j2 j3 j4 t4) :: (bl, listOf (List.replicate (Int.toNat ((many : Nat) : Int)) [Value.int 0 t0]).flatten.toArray nb) :: SB).map (·.1))) (hsc : ScanAt w h₀ sc many ds as en low) (hp : p < many) (V : Cover ls) (hr0 : r0.natAbs ≤ 31) (hr1 : r1.natAbs ≤ 31) (hr2 : r2.natAbs ≤ 31) (hr3 : r3.natAbs ≤ 31)
  (ret : ∀ SB' (h' : Heap) (tk' : Nat), SinkB w x TD (B ++ cod ls 0 (ds p) 0 r0 ++ acs ls (as p) [r1, r2, r3]) SB' → Apt [y, dy] (SB'.map (·.1)) → Step X s.heap h' ((y, instObj 491 dy) :: (dy, sqwD w sc x bl j1 j2 j3 j4 t4) :: (bl, listOf (List.replicate (Int.toNat ((many : Nat) : Int)) [Value.int 0 t0]).flatten.toArray nb) :: SB) ((y, instObj 491 dy) :: (dy, sqwD w sc x bl j1 j2 j3 j4 t4) :: SB') → R (.ok (.ret .none)) { s with heap := h', toks := tk' }) :
  codeC (model pw w) (ar dp fr gd un) (.call (.ref 481) ⟨[.ref y, .int p tp, .ref row], []⟩) R s := by
  refine ScanAt.elim hsc ?_; intro dsc pl dl al q1 q2 q3 q4 q5 q6 q7 u1 u2 u3 u4 pvs dvs avs np nd na X₂
  refine' beginC ((y, instObj 491 dy) :: (dy, sqwD w sc x bl j1 j2 j3 j4 t4) :: (bl, listOf (List.replicate (Int.toNat ((many : Nat) : Int)) [Value.int 0 t0]).flatten.toArray nb) :: SB) [(Str.ofString "self", .ref y), (Str.ofString "place", .int p tp), (Str.ofString "row", .ref row)] (st := sub 33 2) C k (News.ent O) ?ho ?he ?hcd ?hroom ?hbind ?hsc ?_
  case ho => k_is
  case he => exact rfl
  case hcd => k_is
  case hroom => exact lt_of_add hd
  case hbind => exact rfl
  case hsc => exact rfl
  have e8 := X₂.d01 p
  have e8' := X₂.a01 p
  obtain ⟨tds, e9⟩ := X₂.d p hp
  obtain ⟨tas, e9'⟩ := X₂.a p hp
  have hi := idx_get (V.dc (ds p) r0 e8 hr0)
  have hln := V.len 0 (ds p)
  have hs5 : sz r0 ≤ 5 := sz_le_iff.mpr (Nat.lt_of_le_of_lt hr0 (by decide))
  have e12 := zer_ints (n := many) (t := t0)
  have e11 := zer_get (v := Value.int 0 t0) hp
  have h326 : r0.natAbs < 32768 := Nat.lt_of_le_of_lt hr0 (by decide)
  intro g L h₁ mean mg mb tk F N X₁ T₁ En C' K
  have e1 := K _ _ X₂.oS
  have e2 := K _ _ X₂.oD
  have e3 := K _ _ X₂.oP
  have e4 := K _ _ X₂.oDl
  have e5 := K _ _ X₂.oAl
  have e6 := X₂.lP
  have e7 := X₂.m
  have e10 := H.keeps K
  have e13 := En.ro nrow hrow
  k_extra "k_steps"
  refine c_For ?_
  k_extra "k_steps"
  rename SinkB _ _ _ _ _ => W1
  rename IsRange _ _ _ _ _ _ _ _ => mR
  rw [cod_app] at W1
  rename_i D1 _ l1 SB1 _ tk1 _ _ _ D2 _ l2 _ _ _ tk2 t5 u5 v5 kp5
  have hB1 : (B ++ cod ls 0 (ds p) 0 r0).length ≤ 60020 := by
    have := cod_len V 0 (ds p) 0 hr0
    rw [List.length_append]; (first | lia | omega)
  refine' c_range (fun i m news => ∃ SB' run tr u Bi, m = (fun y_1 => if y_1 = Str.ofString "run" then some (.int run tr) else if y_1 = Str.ofString "k" then u else if y_1 = Str.ofString "key" then some (.ref D2) else List.lookup y_1 [(Str.ofString "self", .ref y), (Str.ofString "place", .int p tp), (Str.ofString "row", .ref row)].reverse)
    ∧ news = (D2, tupOf [.int 1 (tk1 + 1 + 1), .int (as p) tas] 0) :: (y, instObj 491 dy) :: (dy, sqwD w sc x bl j1 j2 j3 j4 t4) :: (bl, listOf ((List.replicate (Int.toNat ((many : Nat) : Int)) [Value.int 0 t0]).flatten.set (Int.toNat (p : Int)) (.int r0 v0)).toArray nb) :: SB'
    ∧ SinkB w x TD Bi SB' ∧ Bi = B ++ cod ls 0 (ds p) 0 r0 ++ (([r1, r2, r3].take i).foldl (acGo ls (as p)) ([], 0)).1 ∧ Bi.length ≤ 60020 + 20 * i ∧ run = (([r1, r2, r3].take i).foldl (acGo ls (as p)) ([], 0)).2 ∧ 0 ≤ run ∧ run ≤ i ∧ Apt [D2, y, dy, bl] (SB'.map (·.1)))
    (by rfl) (by rfl) (by rfl) mR (small_one (by decide) (by decide) (by decide) (by decide)) (n := 3) (by rfl) kzFF (News.sub kzNN (S := (D2, tupOf [.int 1 (tk1 + 1 + 1), .int (as p) tas] 0) :: (y, instObj 491 dy) :: (dy, sqwD w sc x bl j1 j2 j3 j4 t4) :: (bl, listOf ((List.replicate (Int.toNat ((many : Nat) : Int)) [Value.int 0 t0]).flatten.set (Int.toNat (p : Int)) (.int r0 v0)).toArray nb) :: SB1) (by k_extra "m sb")) ?h0 ?turn ?done
  case h0 => exact mk5 (a0 := SB1) (a1 := 0) (a3 := none) ⟨by k_extra "m map", rfl, W1, by rw [List.take_zero, List.foldl_nil, List.append_nil], by (first | lia | omega), rfl, Int.le_refl _, Int.le_refl _, by k_extra "m apt"⟩
  case turn =>
    intro I i t m news h tk o lI hi3 hJ hI F6 N6
    clear kzFF kzNN W1 mR kp5
    replace lI := NqL.of_lt lI
    (with_reducible refine ex5 hJ ?_); clear hJ; intro SB' run tr u Bi hJ
    (with_reducible refine conj9 hJ ?_); clear hJ; intro hm9 hn9 W' hBi hlB hrun hr0' hri A'
    replace F6 := Fr.castR hm9 F6; replace N6 := News.castT hn9 N6; rw [hn9] at hI; replace hI := NqL.ofne hI; dsimp only [List.map] at hI; clear hm9 hn9
    obtain ⟨rk, vk, hx6, hx7, hrk⟩ := row_at (r0 := r0) (v0 := v0) (v1 := v1) (v2 := v2) (v3 := v3) hr1 hr2 hr3 hi3
    have hst := acs_turn ls (as p) [r1, r2, r3] hx7
    rw [show (1 : Int) + (i : Nat) = ((i + 1 : Nat) : Int) by (first | lia | omega)] at F6
    (show wpC _ _ _ _ _)
    by_cases h00 : rk = 0
    · subst h00
      k_extra "k_steps"
      rw [acGo, if_pos rfl] at hst
      refine' TEnd.nextF (by assumption) (by assumption) ?zo (mk5 (a0 := SB') (a1 := run + 1) (a4 := Bi) ⟨?zm, rfl, W', ?zb, ?zl, ?zr, ?zr0, ?zr1, A'⟩)
      case zo => k_extra "m off"
      case zm => k_extra "m map"
      case zb => rw [hst]; exact hBi
      case zl => exact Nat.le_trans hlB (Nat.add_le_add_left (Nat.mul_le_mul_left _ (Nat.le_succ _)) _)
      case zr => rw [hst]; show run + 1 = _ + 1; rw [hrun]
      case zr0 => (first | lia | omega)
      case zr1 => (first | lia | omega)
    · have hi := idx_get (V.ac (as p) run rk e8' hr0' (by (first | lia | omega)) h00 hrk)
      have hlc := cod_len V 1 (as p) run hrk
      have hb9 : Bi.length ≤ 70000 := by (first | lia | omega)
      have h326 : rk.natAbs < 32768 := Nat.lt_of_le_of_lt hrk (by decide)
      have hrn : 0 ≤ run ∧ run ≤ 15 := by (first | lia | omega)
      have hlB2 : (Bi ++ cod ls 1 (as p) run rk).length ≤ 60020 + 20 * (i + 1) := by rw [List.length_append]; (first | lia | omega)
      clear hln hs5 hlB hlc hB1 hl
      k_extra "k_steps"
      · exact absurd (by assumption) h00
      rw [acGo, if_neg h00] at hst
      rename SinkB _ _ _ _ _ => W2
      rw [cod_app] at W2
      refine' TEnd.nextF (by assumption) (News.sub (by assumption) (by k_extra "m sb")) ?zo (mk5 (a1 := 0) (a4 := Bi ++ cod ls 1 (as p) run rk) ⟨?zm, rfl, W2, ?zb, hlB2, ?zr, Int.le_refl _, Int.natCast_nonneg _, ?zA⟩)
      case zo => k_extra "m off"
      case zm => k_extra "m map"
      case zb => rw [hst, hBi, hrun]; simp only [List.append_assoc]
      case zr => rw [hst]
      case zA => k_extra "m apt"
  case done =>
    intro m news h tk hJ F6 N6
    clear kzFF kzNN W1 mR kp5
    (with_reducible refine ex5 hJ ?_); clear hJ; intro SB' run tr u Bi hJ
    (with_reducible refine conj9 hJ ?_); clear hJ; intro hm9 hn9 W' hBi hlB hrun hr0' hri A'
    replace F6 := Fr.cast hm9 F6; replace N6 := News.cast hn9 N6; clear hm9 hn9
    have hi := idx_get (V.ac0 (as p) e8')
    have hb9 : Bi.length ≤ 80000 := Nat.le_trans hlB (by decide)
    have ha : acs ls (as p) [r1, r2, r3] = (([r1, r2, r3].take 3).foldl (acGo ls (as p)) ([], 0)).1 ++ (if run > 0 then fig (((ls 1 (as p)).1.idxOf 0 : Nat) : Int) (ls 1 (as p)).2 else []) := by rw [hrun]; rfl
    rw [ha, ← List.append_assoc, ← hBi] at ret
    clear hBi hrun ha hln hs5 hlB hB1 hl
    k_extra "k_steps"
    · rw [if_pos (by assumption)] at ret
      exact ret _ _ _ (by assumption) (by k_extra "m apt") (by k_extra "m step")
    · rw [if_neg (by assumption), List.append_nil] at ret
      exact ret _ _ _ (by assumption) (by k_extra "m apt") (by k_extra "m step")
end
end

theorem words_of_W3 : True := by
  k_with "codeC" => (((with_reducible show codeC _ _ (Code.call (Value.ref 481) _) _ _); k_dflt (refine' sqw_code (by assumption) (by k_extra "m stay") (by k_extra "m room") (by k_extra "m room") (by assumption) (by k_extra "m own") (by k_extra "m apt") (by k_extra "m nq") (by k_extra "m nq") (by k_extra "m nq") (by assumption) (by k_extra "m blen") (by k_extra "m rd") (by k_extra "m nqs") (by assumption) (by assumption) (by assumption) (by assumption) (by assumption) (by assumption) (by assumption) ?_); intros; k_extra "m upS"))
  exact trivial
section
namespace G_W4
theorem in_W4 : True := trivial
end G_W4
open G_W4
abbrev dirD (w : World) (y : Addr) (many : Nat) (k1 k2 tm : Tok) : Obj := dictOf [⟨PyData.keyHash w.params "inner", .str "inner" k1, .ref y⟩, ⟨PyData.keyHash w.params "many", .str "many" k2, .int (many : Int) tm⟩] 2
/-- a direct writer upon a writer of DC, the figures that it holds -/
inductive DcW (w : World) (v sc TD : Addr) (many : Nat) (B : List Int) : List (Addr × Obj) → Prop
  | mk (dv y dy x bl : Addr) (i1 i2 tm j1 j2 j3 : Tok) (SB : List (Addr × Obj)) (BS : SinkB w x TD B SB) (A : Apt [v, dv, y, dy] (SB.map (·.1))) (n : Nq dv dy) :
    DcW w v sc TD many B ((v, instObj 59 dv) :: (dv, dirD w y many i1 i2 tm) :: (y, instObj 365 dy) :: (dy, dcwD w sc x bl j1 j2 j3) :: SB)
/-- a direct writer upon a sequential writer -/
inductive SqW (w : World) (v sc TD : Addr) (many : Nat) (B : List Int) : List (Addr × Obj) → Prop
  | mk (dv y dy x bl : Addr) (i1 i2 tm j1 j2 j3 j4 t4 : Tok) (SB : List (Addr × Obj)) (BS : SinkB w x TD B SB) (A : Apt [v, dv, y, dy] (SB.map (·.1))) (n : Nq dv dy) :
    SqW w v sc TD many B ((v, instObj 59 dv) :: (dv, dirD w y many i1 i2 tm) :: (y, instObj 491 dy) :: (dy, sqwD w sc x bl j1 j2 j3 j4 t4) :: SB)
section
variable {w : World} {dp un : Nat} {fr : Option (List Env)} {gd : Option (List Code)} {h₀ : Heap} {s : Shared} {R : Result → Shared → Prop}
theorem dcw_finish (C : Stc w h₀) (k : h₀.StaysIn s.heap) {X : Addr}
  {y dy sc x bl TD : Addr} {B : List Int} {SB : List (Addr × Obj)} {j1 j2 j3 : Tok} (hd : dp + 10 < recursionLimit) (hu : un + 150 < cLine) (BS : SinkB w x TD B SB) (O : News h₀ X s.heap ((y, instObj 365 dy) :: (dy, dcwD w sc x bl j1 j2 j3) :: SB)) (A : Apt [y, dy] (SB.map (·.1))) (n9 : Nq y dy) (hl : B.length ≤ 80000)
  (ret : ∀ F tb SB' (h' : Heap) (tk' : Nat), octs F = padded B → Oct F → SinkB w x TD [] SB' → Apt [y, dy] (SB'.map (·.1)) → Step X s.heap h' ((y, instObj 365 dy) :: (dy, dcwD w sc x bl j1 j2 j3) :: SB) ((y, instObj 365 dy) :: (dy, dcwD w sc x bl j1 j2 j3) :: SB') → R (.ok (.ret (.bytes (byteArr F) tb))) { s with heap := h', toks := tk' }) :
  codeC (model pw w) (ar dp fr gd un) (.call (.ref 362) ⟨[.ref y], []⟩) R s := by
  refine' beginC ((y, instObj 365 dy) :: (dy, dcwD w sc x bl j1 j2 j3) :: SB) [(Str.ofString "self", .ref y)] (st := sub 25 3) C k (News.ent O) ?ho ?he ?hcd ?hroom ?hbind ?hsc ?_
  case ho => k_is
  case he => exact rfl
  case hcd => k_is
  case hroom => exact lt_of_add hd
  case hbind => exact rfl
  case hsc => exact rfl
  intro g L h₁ mean mg mb tk F N X₁ T₁ En C' K
  k_extra "k_steps"
  exact ret _ _ _ _ _ (by assumption) (by assumption) (by assumption) (by k_extra "m apt") (by k_extra "m step")
theorem line_26 : True := by
  k_with "codeC" => (guard_expr in_W4 =~ in_W4; ((with_reducible show codeC _ _ (Code.call (Value.ref 362) _) _ _); k_dflt (refine' dcw_finish (by assumption) (by k_extra "m stay") (by k_extra "m room") (by k_extra "m room") (by assumption) (by k_extra "m own") (by k_extra "m apt") (by k_extra "m nq") (by k_extra "m blen") ?_); intros; k_extra "m upS"))
  exact trivial
theorem sqw_finish (C : Stc w h₀) (k : h₀.StaysIn s.heap) {X : Addr}
  {y dy sc x bl TD : Addr} {B : List Int} {SB : List (Addr × Obj)} {j1 j2 j3 j4 t4 : Tok} (hd : dp + 10 < recursionLimit) (hu : un + 150 < cLine) (BS : SinkB w x TD B SB) (O : News h₀ X s.heap ((y, instObj 491 dy) :: (dy, sqwD w sc x bl j1 j2 j3 j4 t4) :: SB)) (A : Apt [y, dy] (SB.map (·.1))) (n9 : Nq y dy) (hl : B.length ≤ 80000)
  (ret : ∀ F tb SB' (h' : Heap) (tk' : Nat), octs F = padded B → Oct F → SinkB w x TD [] SB' → Apt [y, dy] (SB'.map (·.1)) → Step X s.heap h' ((y, instObj 491 dy) :: (dy, sqwD w sc x bl j1 j2 j3 j4 t4) :: SB) ((y, instObj 491 dy) :: (dy, sqwD w sc x bl j1 j2 j3 j4 t4) :: SB') → R (.ok (.ret (.bytes (byteArr F) tb))) { s with heap := h', toks := tk' }) :
  codeC (model pw w) (ar dp fr gd un) (.call (.ref 488) ⟨[.ref y], []⟩) R s := by
  refine' beginC ((y, instObj 491 dy) :: (dy, sqwD w sc x bl j1 j2 j3 j4 t4) :: SB) [(Str.ofString "self", .ref y)] (st := sub 33 3) C k (News.ent O) ?ho ?he ?hcd ?hroom ?hbind ?hsc ?_
  case ho => k_is
  case he => exact rfl
  case hcd => k_is
  case hroom => exact lt_of_add hd
  case hbind => exact rfl
  case hsc => exact rfl
  intro g L h₁ mean mg mb tk F N X₁ T₁ En C' K
  k_extra "k_steps"
  exact ret _ _ _ _ _ (by assumption) (by assumption) (by assumption) (by k_extra "m apt") (by k_extra "m step")
theorem line_27 : True := by
  k_with "codeC" => (guard_expr in_W4 =~ in_W4; ((with_reducible show codeC _ _ (Code.call (Value.ref 488) _) _ _); k_dflt (refine' sqw_finish (by assumption) (by k_extra "m stay") (by k_extra "m room") (by k_extra "m room") (by assumption) (by k_extra "m own") (by k_extra "m apt") (by k_extra "m nq") (by k_extra "m blen") ?_); intros; k_extra "m upS"))
  exact trivial
theorem dir_start_dc (C : Stc w h₀) (k : h₀.StaysIn s.heap) {X : Addr}
  {v sc TD : Addr} {many : Nat} {B : List Int} {WB : List (Addr × Obj)} {ds as : Nat → Int} {en : Int} {low : Nat} (hd : dp + 4 < recursionLimit) (hu : un + 40 < cLine) (DW : DcW w v sc TD many B WB) (hsc : ScanAt w h₀ sc many ds as en low) (O : News h₀ X s.heap (WB))
  (ret : ∀ WB' (h' : Heap) (tk' : Nat), DcW w v sc TD many B WB' → Step X s.heap h' (WB) (WB') → R (.ok (.ret .none)) { s with heap := h', toks := tk' }) :
  codeAny (model pw w) (ar dp fr gd un) (.call (.ref 42) ⟨[.ref v], []⟩) R s := by
  obtain ⟨dv, y, dy, x, bl, i1, i2, tm, j1, j2, j3, SB, BS, A, n⟩ := DW
  refine' begin ((v, instObj 59 dv) :: (dv, dirD w y many i1 i2 tm) :: (y, instObj 365 dy) :: (dy, dcwD w sc x bl j1 j2 j3) :: SB) [(Str.ofString "self", .ref v)] (st := sub 2 1) C k (News.ent O) ?ho ?he ?hcd ?hroom ?hbind ?hsc ?_
  case ho => k_is
  case he => exact rfl
  case hcd => k_is
  case hroom => exact lt_of_add hd
  case hbind => exact rfl
  case hsc => exact rfl
  have nv1 : Nq v dv := ne_cls (O _ (.head _)).1 (O _ (.tail _ (.head _))).1 (by rfl)
  have nv2 : Nq v y := ne_cls (O _ (.head _)).1 (O _ (.tail _ (.tail _ (.head _)))).1 (by rfl)
  have nv3 : Nq v dy := ne_cls (O _ (.head _)).1 (O _ (.tail _ (.tail _ (.tail _ (.head _))))).1 (by rfl)
  have nv4 : Nq dv y := ne_cls (O _ (.tail _ (.head _))).1 (O _ (.tail _ (.tail _ (.head _)))).1 (by rfl)
  have nv5 : Nq y dy := ne_cls (O _ (.tail _ (.tail _ (.head _)))).1 (O _ (.tail _ (.tail _ (.tail _ (.head _))))).1 (by rfl)
  intro g L h₁ mean mg mb tk F N X₁ T₁ En C' K
  have e1 := hsc.keeps K
  k_extra "k_steps"
  exact ret _ _ _ (.mk dv y dy x _ _ _ _ _ _ _ _ (by assumption) (by k_extra "m apt") (by k_extra "m nq")) (by k_extra "m step")
theorem dir_code_dc (C : Stc w h₀) (k : h₀.StaysIn s.heap) {X : Addr}
  {v sc TD : Addr} {many : Nat} {B : List Int} {WB : List (Addr × Obj)} {ls : Int → Int → List Int × Nat} {tp : Tok} {p low : Nat} {ds as : Nat → Int} {en : Int} {row : Addr} {r0 r1 r2 r3 : Int} {v0 v1 v2 v3 : Tok} {nr : Nat} (hd : dp + 16 < recursionLimit) (hu : un + 200 < cLine) (DW : DcW w v sc TD many B WB) (H : Tabs w h₀ TD ls) (hl : B.length ≤ 50000) (hrow : s.heap.get? row = some (listOf #[.int r0 v0, .int r1 v1, .int r2 v2, .int r3 v3] nr)) (nrow : NqL row (WB.map (·.1))) (hsc : ScanAt w h₀ sc many ds as en low) (hp : p < many) (V : Cover ls) (hr0 : r0.natAbs ≤ 31) (O : News h₀ X s.heap (WB))
  (ret : ∀ WB' (h' : Heap) (tk' : Nat), DcW w v sc TD many (B ++ (cod ls 0 (ds p) 0 (r0.fdiv (2 ^ Int.toNat ((low : Nat) : Int))))) WB' → Step X s.heap h' (WB) (WB') → R (.ok (.ret .none)) { s with heap := h', toks := tk' }) :
  codeC (model pw w) (ar dp fr gd un) (.call (.ref 49) ⟨[.ref v, .int p tp, .ref row], []⟩) R s := by
  obtain ⟨dv, y, dy, x, bl, i1, i2, tm, j1, j2, j3, SB, BS, A, n⟩ := DW
  refine' beginC ((v, instObj 59 dv) :: (dv, dirD w y many i1 i2 tm) :: (y, instObj 365 dy) :: (dy, dcwD w sc x bl j1 j2 j3) :: SB) [(Str.ofString "self", .ref v), (Str.ofString "place", .int p tp), (Str.ofString "row", .ref row)] (st := sub 2 2) C k (News.ent O) ?ho ?he ?hcd ?hroom ?hbind ?hsc ?_
  case ho => k_is
  case he => exact rfl
  case hcd => k_is
  case hroom => exact lt_of_add hd
  case hbind => exact rfl
  case hsc => exact rfl
  have nv1 : Nq v dv := ne_cls (O _ (.head _)).1 (O _ (.tail _ (.head _))).1 (by rfl)
  have nv2 : Nq v y := ne_cls (O _ (.head _)).1 (O _ (.tail _ (.tail _ (.head _)))).1 (by rfl)
  have nv3 : Nq v dy := ne_cls (O _ (.head _)).1 (O _ (.tail _ (.tail _ (.tail _ (.head _))))).1 (by rfl)
  have nv4 : Nq dv y := ne_cls (O _ (.tail _ (.head _))).1 (O _ (.tail _ (.tail _ (.head _)))).1 (by rfl)
  have nv5 : Nq y dy := ne_cls (O _ (.tail _ (.tail _ (.head _)))).1 (O _ (.tail _ (.tail _ (.tail _ (.head _))))).1 (by rfl)
  intro g L h₁ mean mg mb tk F N X₁ T₁ En C' K
  have e1 := hsc.keeps K
  have e2 := H.keeps K
  have e3 := En.ro nrow hrow
  refine ScanAt.elim hsc ?_; intro dsc pl dl al q1 q2 q3 q4 q5 q6 q7 u1 u2 u3 u4 pvs dvs avs np nd na X₂
  have e7 := X₂.m
  clear X₂
  k_extra "k_steps"
  exact ret _ _ _ (.mk dv y dy x _ _ _ _ _ _ _ _ (by assumption) (by k_extra "m apt") (by k_extra "m nq")) (by k_extra "m step")
theorem dir_finish_dc (C : Stc w h₀) (k : h₀.StaysIn s.heap) {X : Addr}
  {v sc TD : Addr} {many : Nat} {B : List Int} {WB : List (Addr × Obj)} (hd : dp + 14 < recursionLimit) (hu : un + 180 < cLine) (DW : DcW w v sc TD many B WB) (hl : B.length ≤ 80000) (O : News h₀ X s.heap (WB))
  (ret : ∀ F tb WB' (h' : Heap) (tk' : Nat), octs F = padded B → Oct F → DcW w v sc TD many [] WB' → Step X s.heap h' (WB) (WB') → R (.ok (.ret (.bytes (byteArr F) tb))) { s with heap := h', toks := tk' }) :
  codeC (model pw w) (ar dp fr gd un) (.call (.ref 56) ⟨[.ref v], []⟩) R s := by
  obtain ⟨dv, y, dy, x, bl, i1, i2, tm, j1, j2, j3, SB, BS, A, n⟩ := DW
  refine' beginC ((v, instObj 59 dv) :: (dv, dirD w y many i1 i2 tm) :: (y, instObj 365 dy) :: (dy, dcwD w sc x bl j1 j2 j3) :: SB) [(Str.ofString "self", .ref v)] (st := sub 2 3) C k (News.ent O) ?ho ?he ?hcd ?hroom ?hbind ?hsc ?_
  case ho => k_is
  case he => exact rfl
  case hcd => k_is
  case hroom => exact lt_of_add hd
  case hbind => exact rfl
  case hsc => exact rfl
  have nv1 : Nq v dv := ne_cls (O _ (.head _)).1 (O _ (.tail _ (.head _))).1 (by rfl)
  have nv2 : Nq v y := ne_cls (O _ (.head _)).1 (O _ (.tail _ (.tail _ (.head _)))).1 (by rfl)
  have nv3 : Nq v dy := ne_cls (O _ (.head _)).1 (O _ (.tail _ (.tail _ (.tail _ (.head _))))).1 (by rfl)
  have nv4 : Nq dv y := ne_cls (O _ (.tail _ (.head _))).1 (O _ (.tail _ (.tail _ (.head _)))).1 (by rfl)
  have nv5 : Nq y dy := ne_cls (O _ (.tail _ (.tail _ (.head _)))).1 (O _ (.tail _ (.tail _ (.tail _ (.head _))))).1 (by rfl)
  intro g L h₁ mean mg mb tk F N X₁ T₁ En C' K
  k_extra "k_steps"
  exact ret _ _ _ _ _ (by assumption) (by assumption) (.mk dv y dy x _ _ _ _ _ _ _ _ (by assumption) (by k_extra "m apt") (by k_extra "m nq")) (by k_extra "m step")
theorem dir_start_sq (C : Stc w h₀) (k : h₀.StaysIn s.heap) {X : Addr}
  {v sc TD : Addr} {many : Nat} {B : List Int} {WB : List (Addr × Obj)} {ds as : Nat → Int} {en : Int} {low : Nat} (hd : dp + 4 < recursionLimit) (hu : un + 40 < cLine) (DW : SqW w v sc TD many B WB) (hsc : ScanAt w h₀ sc many ds as en low) (O : News h₀ X s.heap (WB))
  (ret : ∀ WB' (h' : Heap) (tk' : Nat), SqW w v sc TD many B WB' → Step X s.heap h' (WB) (WB') → R (.ok (.ret .none)) { s with heap := h', toks := tk' }) :
  codeAny (model pw w) (ar dp fr gd un) (.call (.ref 42) ⟨[.ref v], []⟩) R s := by
  obtain ⟨dv, y, dy, x, bl, i1, i2, tm, j1, j2, j3, j4, t4, SB, BS, A, n⟩ := DW
  refine' begin ((v, instObj 59 dv) :: (dv, dirD w y many i1 i2 tm) :: (y, instObj 491 dy) :: (dy, sqwD w sc x bl j1 j2 j3 j4 t4) :: SB) [(Str.ofString "self", .ref v)] (st := sub 2 1) C k (News.ent O) ?ho ?he ?hcd ?hroom ?hbind ?hsc ?_
  case ho => k_is
  case he => exact rfl
  case hcd => k_is
  case hroom => exact lt_of_add hd
  case hbind => exact rfl
  case hsc => exact rfl
  have nv1 : Nq v dv := ne_cls (O _ (.head _)).1 (O _ (.tail _ (.head _))).1 (by rfl)
  have nv2 : Nq v y := ne_cls (O _ (.head _)).1 (O _ (.tail _ (.tail _ (.head _)))).1 (by rfl)
  have nv3 : Nq v dy := ne_cls (O _ (.head _)).1 (O _ (.tail _ (.tail _ (.tail _ (.head _))))).1 (by rfl)
  have nv4 : Nq dv y := ne_cls (O _ (.tail _ (.head _))).1 (O _ (.tail _ (.tail _ (.head _)))).1 (by rfl)
  have nv5 : Nq y dy := ne_cls (O _ (.tail _ (.tail _ (.head _)))).1 (O _ (.tail _ (.tail _ (.tail _ (.head _))))).1 (by rfl)
  intro g L h₁ mean mg mb tk F N X₁ T₁ En C' K
  have e1 := hsc.keeps K
  k_extra "k_steps"
  exact ret _ _ _ (.mk dv y dy x _ _ _ _ _ _ _ _ _ _ (by assumption) (by k_extra "m apt") (by k_extra "m nq")) (by k_extra "m step")
theorem dir_code_sq (C : Stc w h₀) (k : h₀.StaysIn s.heap) {X : Addr}
  {v sc TD : Addr} {many : Nat} {B : List Int} {WB : List (Addr × Obj)} {ls : Int → Int → List Int × Nat} {tp : Tok} {p low : Nat} {ds as : Nat → Int} {en : Int} {row : Addr} {r0 r1 r2 r3 : Int} {v0 v1 v2 v3 : Tok} {nr : Nat} (hd : dp + 16 < recursionLimit) (hu : un + 200 < cLine) (DW : SqW w v sc TD many B WB) (H : Tabs w h₀ TD ls) (hl : B.length ≤ 50000) (hrow : s.heap.get? row = some (listOf #[.int r0 v0, .int r1 v1, .int r2 v2, .int r3 v3] nr)) (nrow : NqL row (WB.map (·.1))) (hsc : ScanAt w h₀ sc many ds as en low) (hp : p < many) (V : Cover ls) (hr0 : r0.natAbs ≤ 31) (hr1 : r1.natAbs ≤ 31) (hr2 : r2.natAbs ≤ 31) (hr3 : r3.natAbs ≤ 31) (O : News h₀ X s.heap (WB))
  (ret : ∀ WB' (h' : Heap) (tk' : Nat), SqW w v sc TD many (B ++ (cod ls 0 (ds p) 0 r0 ++ acs ls (as p) [r1, r2, r3])) WB' → Step X s.heap h' (WB) (WB') → R (.ok (.ret .none)) { s with heap := h', toks := tk' }) :
  codeC (model pw w) (ar dp fr gd un) (.call (.ref 49) ⟨[.ref v, .int p tp, .ref row], []⟩) R s := by
  obtain ⟨dv, y, dy, x, bl, i1, i2, tm, j1, j2, j3, j4, t4, SB, BS, A, n⟩ := DW
  refine' beginC ((v, instObj 59 dv) :: (dv, dirD w y many i1 i2 tm) :: (y, instObj 491 dy) :: (dy, sqwD w sc x bl j1 j2 j3 j4 t4) :: SB) [(Str.ofString "self", .ref v), (Str.ofString "place", .int p tp), (Str.ofString "row", .ref row)] (st := sub 2 2) C k (News.ent O) ?ho ?he ?hcd ?hroom ?hbind ?hsc ?_
  case ho => k_is
  case he => exact rfl
  case hcd => k_is
  case hroom => exact lt_of_add hd
  case hbind => exact rfl
  case hsc => exact rfl
  have nv1 : Nq v dv := ne_cls (O _ (.head _)).1 (O _ (.tail _ (.head _))).1 (by rfl)
  have nv2 : Nq v y := ne_cls (O _ (.head _)).1 (O _ (.tail _ (.tail _ (.head _)))).1 (by rfl)
  have nv3 : Nq v dy := ne_cls (O _ (.head _)).1 (O _ (.tail _ (.tail _ (.tail _ (.head _))))).1 (by rfl)
  have nv4 : Nq dv y := ne_cls (O _ (.tail _ (.head _))).1 (O _ (.tail _ (.tail _ (.head _)))).1 (by rfl)
  have nv5 : Nq y dy := ne_cls (O _ (.tail _ (.tail _ (.head _)))).1 (O _ (.tail _ (.tail _ (.tail _ (.head _))))).1 (by rfl)
  intro g L h₁ mean mg mb tk F N X₁ T₁ En C' K
  have e1 := hsc.keeps K
  have e2 := H.keeps K
  have e3 := En.ro nrow hrow
  refine ScanAt.elim hsc ?_; intro dsc pl dl al q1 q2 q3 q4 q5 q6 q7 u1 u2 u3 u4 pvs dvs avs np nd na X₂
  have e7 := X₂.m
  clear X₂
  k_extra "k_steps"
  rename SinkB _ _ _ _ _ => W9
  rw [List.append_assoc] at W9
  exact ret _ _ _ (.mk dv y dy x _ _ _ _ _ _ _ _ _ _ (by assumption) (by k_extra "m apt") (by k_extra "m nq")) (by k_extra "m step")
theorem dir_finish_sq (C : Stc w h₀) (k : h₀.StaysIn s.heap) {X : Addr}
  {v sc TD : Addr} {many : Nat} {B : List Int} {WB : List (Addr × Obj)} (hd : dp + 14 < recursionLimit) (hu : un + 180 < cLine) (DW : SqW w v sc TD many B WB) (hl : B.length ≤ 80000) (O : News h₀ X s.heap (WB))
  (ret : ∀ F tb WB' (h' : Heap) (tk' : Nat), octs F = padded B → Oct F → SqW w v sc TD many [] WB' → Step X s.heap h' (WB) (WB') → R (.ok (.ret (.bytes (byteArr F) tb))) { s with heap := h', toks := tk' }) :
  codeC (model pw w) (ar dp fr gd un) (.call (.ref 56) ⟨[.ref v], []⟩) R s := by
  obtain ⟨dv, y, dy, x, bl, i1, i2, tm, j1, j2, j3, j4, t4, SB, BS, A, n⟩ := DW
  refine' beginC ((v, instObj 59 dv) :: (dv, dirD w y many i1 i2 tm) :: (y, instObj 491 dy) :: (dy, sqwD w sc x bl j1 j2 j3 j4 t4) :: SB) [(Str.ofString "self", .ref v)] (st := sub 2 3) C k (News.ent O) ?ho ?he ?hcd ?hroom ?hbind ?hsc ?_
  case ho => k_is
  case he => exact rfl
  case hcd => k_is
  case hroom => exact lt_of_add hd
  case hbind => exact rfl
  case hsc => exact rfl
  have nv1 : Nq v dv := ne_cls (O _ (.head _)).1 (O _ (.tail _ (.head _))).1 (by rfl)
  have nv2 : Nq v y := ne_cls (O _ (.head _)).1 (O _ (.tail _ (.tail _ (.head _)))).1 (by rfl)
  have nv3 : Nq v dy := ne_cls (O _ (.head _)).1 (O _ (.tail _ (.tail _ (.tail _ (.head _))))).1 (by rfl)
  have nv4 : Nq dv y := ne_cls (O _ (.tail _ (.head _))).1 (O _ (.tail _ (.tail _ (.head _)))).1 (by rfl)
  have nv5 : Nq y dy := ne_cls (O _ (.tail _ (.tail _ (.head _)))).1 (O _ (.tail _ (.tail _ (.tail _ (.head _))))).1 (by rfl)
  intro g L h₁ mean mg mb tk F N X₁ T₁ En C' K
  k_extra "k_steps"
  exact ret _ _ _ _ _ (by assumption) (by assumption) (.mk dv y dy x _ _ _ _ _ _ _ _ _ _ (by assumption) (by k_extra "m apt") (by k_extra "m nq")) (by k_extra "m step")
end
end
section
namespace G_R2
theorem in_R2 : True := trivial
end G_R2
open G_R2
abbrev dcrD (w : World) (sc TD bl : Addr) (rv : Value) (k1 k2 k3 k4 : Tok) : Obj := dictOf [⟨PyData.keyHash w.params "scan", .str "scan" k1, .ref sc⟩, ⟨PyData.keyHash w.params "tables", .str "tables" k2, .ref TD⟩, ⟨PyData.keyHash w.params "before", .str "before" k3, .ref bl⟩, ⟨PyData.keyHash w.params "reader", .str "reader" k4, rv⟩] 4
abbrev sqrD (w : World) (sc TD bl : Addr) (rv : Value) (k1 k2 k3 k4 k5 t4 : Tok) : Obj := dictOf [⟨PyData.keyHash w.params "scan", .str "scan" k1, .ref sc⟩, ⟨PyData.keyHash w.params "many", .str "many" k2, .int 4 t4⟩, ⟨PyData.keyHash w.params "tables", .str "tables" k3, .ref TD⟩, ⟨PyData.keyHash w.params "reader", .str "reader" k4, rv⟩, ⟨PyData.keyHash w.params "before", .str "before" k5, .ref bl⟩] 5
theorem drop_app {α : Type} {F a b : List α} {p n : Nat} (h : F.drop p = a ++ b) (hn : a.length = n) : F.drop (p + n) = b := by
  rw [← List.drop_drop, h, ← hn, List.drop_left]
theorem drop_len {F a : List Int} {p : Nat} (h : (octs F).drop p = a) (hp : p ≤ 8 * F.length) : p + a.length = 8 * F.length := by
  have := congrArg List.length h
  rw [List.length_drop, octs_length] at this; (first | lia | omega)
theorem set_zer {n p : Nat} {v u : Value} (h : p < n) : (((List.replicate (Int.toNat ((n : Nat) : Int)) [u]).flatten).set (Int.toNat ((p : Nat) : Int)) v)[p]? = some v := by
  have e : (List.replicate (Int.toNat ((n : Nat) : Int)) [u]).flatten = List.replicate n u := by simp
  rw [e]; show (List.set _ p v)[p]? = _
  rw [List.getElem?_set_self (by simpa using h)]
section
variable {w : World} {dp un : Nat} {fr : Option (List Env)} {gd : Option (List Code)} {h₀ : Heap} {s : Shared} {R : Result → Shared → Prop}
theorem rd_init (C : Stc w h₀) (k : h₀.StaysIn s.heap) {X : Addr}
  {x d : Addr} {b : Array UInt8} {tb : Tok} (hd : dp + 2 < recursionLimit) (hu : un + 20 < cLine) (O : News h₀ X s.heap ([(x, instObj 302 d), (d, dictOf [] 0)])) (n9 : Nq x d)
  (ret : ∀ ta k1 k2 (h' : Heap) (tk' : Nat), Step X s.heap h' ([(x, instObj 302 d), (d, dictOf [] 0)]) ([(x, instObj 302 d), (d, rdD w b tb ((0 : Nat) : Int) ta k1 k2)]) → R (.ok (.ret .none)) { s with heap := h', toks := tk' }) :
  codeAny (model pw w) (ar dp fr gd un) (.call (.ref 278) ⟨[.ref x, .bytes b tb], []⟩) R s := by
  refine' begin ([(x, instObj 302 d), (d, dictOf [] 0)]) [(Str.ofString "self", .ref x), (Str.ofString "octets", .bytes b tb)] (st := sub 18 0) C k (News.ent O) ?ho ?he ?hcd ?hroom ?hbind ?hsc ?_
  case ho => k_is
  case he => exact rfl
  case hcd => k_is
  case hroom => exact lt_of_add hd
  case hbind => exact rfl
  case hsc => exact rfl
  intro g L h₁ mean mg mb tk F N X₁ T₁ En C' K
  k_extra "k_steps"
  exact ret _ _ _ _ _ (by k_extra "m step")
theorem line_28 : True := by
  k_with "codeAny" => (guard_expr in_R2 =~ in_R2; ((with_reducible show codeAny _ _ (Code.call (Value.ref 278) _) _ _); k_dflt (refine' rd_init (by assumption) (by k_extra "m stay") (by k_extra "m room") (by k_extra "m room") (by k_extra "m own") (by k_extra "m nq") ?_); intros; k_extra "m upS"))
  exact trivial
theorem line_29 : True := by
  k_with "InitBack" => (guard_expr in_R2 =~ in_R2; (dsimp only [InitBack]; refine And.intro rfl ?_))
  exact trivial
theorem dcr_start (C : Stc w h₀) (k : h₀.StaysIn s.heap) {X : Addr}
  {y dy sc TD bl : Addr} {rv : Value} {j1 j2 j3 j4 : Tok} {many : Nat} {ds as : Nat → Int} {en : Int} {low : Nat} {b : Array UInt8} {tb : Tok} (hd : dp + 6 < recursionLimit) (hu : un + 60 < cLine) (O : News h₀ X s.heap ([(y, instObj 407 dy), (dy, dcrD w sc TD bl rv j1 j2 j3 j4)])) (n9 : Nq y dy) (hsc : ScanAt w h₀ sc many ds as en low)
  (ret : ∀ bl' x' d' ta k1 k2 j1' j2' j3' j4' (h' : Heap) (tk' : Nat), Step X s.heap h' ([(y, instObj 407 dy), (dy, dcrD w sc TD bl rv j1 j2 j3 j4)]) ([(y, instObj 407 dy), (dy, dcrD w sc TD bl' (.ref x') j1' j2' j3' j4'), (x', instObj 302 d'), (d', rdD w b tb ((0 : Nat) : Int) ta k1 k2)]) → Nq y x' → Nq dy d' → R (.ok (.ret .none)) { s with heap := h', toks := tk' }) :
  codeAny (model pw w) (ar dp fr gd un) (.call (.ref 390) ⟨[.ref y, .bytes b tb], []⟩) R s := by
  refine ScanAt.elim hsc ?_; intro dsc pl dl al q1 q2 q3 q4 q5 q6 q7 u1 u2 u3 u4 pvs dvs avs np nd na X₂
  refine' begin ([(y, instObj 407 dy), (dy, dcrD w sc TD bl rv j1 j2 j3 j4)]) [(Str.ofString "self", .ref y), (Str.ofString "octets", .bytes b tb)] (st := sub 26 1) C k (News.ent O) ?ho ?he ?hcd ?hroom ?hbind ?hsc ?_
  case ho => k_is
  case he => exact rfl
  case hcd => k_is
  case hroom => exact lt_of_add hd
  case hbind => exact rfl
  case hsc => exact rfl
  intro g L h₁ mean mg mb tk F N X₁ T₁ En C' K
  have e1 := K _ _ X₂.oS
  have e2 := K _ _ X₂.oD
  have e3 := K _ _ X₂.oP
  have e4 := K _ _ X₂.oDl
  have e5 := K _ _ X₂.oAl
  have e6 := X₂.lP
  have e7 := X₂.m
  have e8 := X₂.lD
  k_extra "k_steps"
  exact ret _ _ _ _ _ _ _ _ _ _ _ _ (by k_extra "m step") (by k_extra "m nq") (by k_extra "m nq")
theorem sqr_start (C : Stc w h₀) (k : h₀.StaysIn s.heap) {X : Addr}
  {y dy sc TD bl : Addr} {rv : Value} {j1 j2 j3 j4 j5 t4 : Tok} {many : Nat} {ds as : Nat → Int} {en : Int} {low : Nat} {b : Array UInt8} {tb : Tok} (hd : dp + 6 < recursionLimit) (hu : un + 60 < cLine) (O : News h₀ X s.heap ([(y, instObj 540 dy), (dy, sqrD w sc TD bl rv j1 j2 j3 j4 j5 t4)])) (n9 : Nq y dy) (hsc : ScanAt w h₀ sc many ds as en low)
  (ret : ∀ bl' x' d' ta k1 k2 j1' j2' j3' j4' j5' (h' : Heap) (tk' : Nat), Step X s.heap h' ([(y, instObj 540 dy), (dy, sqrD w sc TD bl rv j1 j2 j3 j4 j5 t4)]) ([(y, instObj 540 dy), (dy, sqrD w sc TD bl' (.ref x') j1' j2' j3' j4' j5' t4), (x', instObj 302 d'), (d', rdD w b tb ((0 : Nat) : Int) ta k1 k2)]) → Nq y x' → Nq dy d' → R (.ok (.ret .none)) { s with heap := h', toks := tk' }) :
  codeAny (model pw w) (ar dp fr gd un) (.call (.ref 516) ⟨[.ref y, .bytes b tb], []⟩) R s := by
  refine ScanAt.elim hsc ?_; intro dsc pl dl al q1 q2 q3 q4 q5 q6 q7 u1 u2 u3 u4 pvs dvs avs np nd na X₂
  refine' begin ([(y, instObj 540 dy), (dy, sqrD w sc TD bl rv j1 j2 j3 j4 j5 t4)]) [(Str.ofString "self", .ref y), (Str.ofString "octets", .bytes b tb)] (st := sub 34 1) C k (News.ent O) ?ho ?he ?hcd ?hroom ?hbind ?hsc ?_
  case ho => k_is
  case he => exact rfl
  case hcd => k_is
  case hroom => exact lt_of_add hd
  case hbind => exact rfl
  case hsc => exact rfl
  intro g L h₁ mean mg mb tk F N X₁ T₁ En C' K
  have e1 := K _ _ X₂.oS
  have e2 := K _ _ X₂.oD
  have e3 := K _ _ X₂.oP
  have e4 := K _ _ X₂.oDl
  have e5 := K _ _ X₂.oAl
  have e6 := X₂.lP
  have e7 := X₂.m
  have e8 := X₂.lD
  k_extra "k_steps"
  exact ret _ _ _ _ _ _ _ _ _ _ _ _ _ (by k_extra "m step") (by k_extra "m nq") (by k_extra "m nq")
end
end

theorem words_of_R2 : True := by
  k_with "codeAny" => (((with_reducible show codeAny _ _ (Code.call (Value.ref 278) _) _ _); k_dflt (refine' rd_init (by assumption) (by k_extra "m stay") (by k_extra "m room") (by k_extra "m room") (by k_extra "m own") (by k_extra "m nq") ?_); intros; k_extra "m upS"))
  k_with "InitBack" => ((dsimp only [InitBack]; refine And.intro rfl ?_))
  k_with "codeAny" => (((with_reducible show codeAny _ _ (Code.call (Value.ref 390) _) _ _); k_dflt (refine' dcr_start (by assumption) (by k_extra "m stay") (by k_extra "m room") (by k_extra "m room") (by k_extra "m own") (by k_extra "m nq") (by assumption) ?_); intros; k_extra "m upS"))
  k_with "codeAny" => (((with_reducible show codeAny _ _ (Code.call (Value.ref 516) _) _ _); k_dflt (refine' sqr_start (by assumption) (by k_extra "m stay") (by k_extra "m room") (by k_extra "m room") (by k_extra "m own") (by k_extra "m nq") (by assumption) ?_); intros; k_extra "m upS"))
  exact trivial
section
namespace G_R3
theorem in_R3 : True := trivial
end G_R3
open G_R3
theorem slice4B {prog : Program} {w : World} {A : Around} {E : Value → Shared → Prop} {h₀ h : Heap} {gs : Array GenState} {dr : Drawn} {tk : Nat} {os : OsState} {L l : Addr} {m : Str → Option Value} {news : List (Addr × Obj)} {value slice : Expr} {a b c d : Value} {n : Nat} {u : Tok} {Q : Value → Shared → Prop}
    (F : Fr h₀ L h m) (N : News h₀ L h news) (hm : h₀.get? l = some (listOf #[a, b, c, d] n))
    (hq : ∀ D h', Fr h₀ L h' m → News h₀ L h' ((D, listOf #[b, c, d] 0) :: news) → (∀ p ∈ news, p.1 < D) → Q (.ref D) ⟨h', gs, dr, tk, os⟩)
    (hs : subscripted slice false (.ref l) (.ref h.objs.size) = operate [.ref h.objs.size, .ref l] (getItem (.ref l) (.ref h.objs.size)) := by with_unfolding_all rfl) (ht : ∀ r, letTemporaryGo value (.ref l) r = pure () := by intro _; with_unfolding_all rfl) :
    wpAny (model prog w) A (subscriptTail value slice (.ref l) (.ref h.objs.size)) Q E ⟨h.push { cls := .type "slice", data := .fields #[.int 1 u, .none, .none] }, gs, dr, tk, os⟩ :=
  kmk_slice_lit (s := ⟨h, gs, dr, tk, os⟩) F N (lst_base F hm) (.int _ _) .none (zs := [b, c, d]) (by with_unfolding_all rfl) hq hs ht (by show 4 ≤ 16777216; decide)
theorem line_30 : True := by
  k_with "subscriptTail Name Slice ref ref" => (guard_expr in_R3 =~ in_R3; (k_here; k_dflt (refine' slice4B (by k_asm) (by k_asm) (by with_reducible assumption) ?_); intro kzD kzh kzF kzN kz1; (try k_lt kz1); (try k_sweep)))
  exact trivial
theorem line_31 : True := by
  k_with "binaryOp Add int int" => (guard_expr in_R3 =~ in_R3; (k_here; (with_reducible refine add_as (Int.zero_add _) ?_)))
  exact trivial
theorem line_32 : True := by
  k_with "subscriptTail" => (guard_expr in_R3 =~ in_R3; (k_here; (with_reducible show wpAny _ _ (subscriptTail _ _ (Value.ref _) (Value.int _ _)) _ _ _); k_dflt (refine' lst_itemN (by k_asm) (by k_mem) (by exact set_zer (by assumption)) (by (first | lia | omega)) ?_)))
  exact trivial
section
variable {w : World} {dp un : Nat} {fr : Option (List Env)} {gd : Option (List Code)} {h₀ : Heap} {s : Shared} {R : Result → Shared → Prop}
theorem dcr_read (C : Stc w h₀) (k : h₀.StaysIn s.heap) {X : Addr}
  {x d : Addr} {b : Array UInt8} {ks rest : List Int} {p0 : Nat} {tb ta k1 k2 : Tok} {y dy bl sc TD : Addr} {j1 j2 j3 j4 t0 tp : Tok} {nb : Nat} {many p low : Nat} {ds as : Nat → Int} {en : Int} {ls : Int → Int → List Int × Nat} {dv : Int} {row : Addr} {r0 r1 r2 r3 : Int} {v0 v1 v2 v3 : Tok} {nr : Nat} (hd : dp + 8 < recursionLimit) (hu : un + 100 < cLine) (O : News h₀ X s.heap ([(y, instObj 407 dy), (dy, dcrD w sc TD bl (.ref x) j1 j2 j3 j4), (x, instObj 302 d), (d, rdD w b tb (p0 : Nat) ta k1 k2), (bl, listOf (List.replicate (Int.toNat ((many : Nat) : Int)) [Value.int 0 t0]).flatten.toArray nb)])) (hks : KBw.bInts b = ks) (hsz : ks.length ≤ 100000) (hp0 : p0 ≤ 8 * ks.length) (n1 : Nq y x) (n2 : Nq dy d) (H : Tabs w h₀ TD ls) (hrow : s.heap.get? row = some (listOf #[.int r0 v0, .int r1 v1, .int r2 v2, .int r3 v3] nr)) (nrow : NqL row (([(y, instObj 407 dy), (dy, dcrD w sc TD bl (.ref x) j1 j2 j3 j4), (x, instObj 302 d), (d, rdD w b tb (p0 : Nat) ta k1 k2), (bl, listOf (List.replicate (Int.toNat ((many : Nat) : Int)) [Value.int 0 t0]).flatten.toArray nb)] : List (Addr × Obj)).map (·.1))) (hsc : ScanAt w h₀ sc many ds as en low) (hp : p < many) (V : Cover ls) (hlow : low ≤ 2) (hdv : dv.natAbs ≤ 31) (hc : (octs ks).drop p0 = cod ls 0 (ds p) 0 dv ++ rest)
  (ret : ∀ D u0 u1 u2 u3 n1 ta' (h' : Heap) (tk' : Nat), Step X s.heap h' ([(y, instObj 407 dy), (dy, dcrD w sc TD bl (.ref x) j1 j2 j3 j4), (x, instObj 302 d), (d, rdD w b tb (p0 : Nat) ta k1 k2), (bl, listOf (List.replicate (Int.toNat ((many : Nat) : Int)) [Value.int 0 t0]).flatten.toArray nb)]) ([(y, instObj 407 dy), (dy, dcrD w sc TD bl (.ref x) j1 j2 j3 j4), (x, instObj 302 d), (d, rdD w b tb ((p0 + (cod ls 0 (ds p) 0 dv).length : Nat) : Int) ta' k1 k2), (D, listOf #[.int (dv * 2 ^ Int.toNat ((low : Nat) : Int)) u0, .int r1 u1, .int r2 u2, .int r3 u3] n1)]) → R (.ok (.ret (.ref D))) { s with heap := h', toks := tk' }) :
  codeAny (model pw w) (ar dp fr gd un) (.call (.ref 397) ⟨[.ref y, .int p tp, .ref row], []⟩) R s := by
  refine ScanAt.elim hsc ?_; intro dsc pl dl al q1 q2 q3 q4 q5 q6 q7 u1 u2 u3 u4 pvs dvs avs np nd na X₂
  refine' begin ([(y, instObj 407 dy), (dy, dcrD w sc TD bl (.ref x) j1 j2 j3 j4), (x, instObj 302 d), (d, rdD w b tb (p0 : Nat) ta k1 k2), (bl, listOf (List.replicate (Int.toNat ((many : Nat) : Int)) [Value.int 0 t0]).flatten.toArray nb)]) [(Str.ofString "self", .ref y), (Str.ofString "place", .int p tp), (Str.ofString "row", .ref row)] (st := sub 26 2) C k (News.ent O) ?ho ?he ?hcd ?hroom ?hbind ?hsc ?_
  case ho => k_is
  case he => exact rfl
  case hcd => k_is
  case hroom => exact lt_of_add hd
  case hbind => exact rfl
  case hsc => exact rfl
  have e8 := X₂.d01 p
  obtain ⟨tds, e9⟩ := X₂.d p hp
  obtain ⟨xs, D, rT⟩ := id H
  obtain ⟨kka, T, eT, HT⟩ := rT 0 (ds p) (.inl rfl) e8
  clear rT
  refine Tbl.elim HT ?_; intro dT st rs cd cv kq1 kq2 kq3 kq4 vs rvs ns nr' ff XT
  have hi := idx_get (V.dc (ds p) dv e8 hdv)
  rw [Int.mul_zero, Int.zero_add] at hi
  have ec : cod ls 0 (ds p) 0 dv = fig ((((ls 0 (ds p)).1.idxOf (sz dv : Int) : Nat)) : Int) (ls 0 (ds p)).2 ++ fig (bo dv) (sz dv) := by
    unfold cod; rw [Int.mul_zero, Int.zero_add]
  have hln := V.len 0 (ds p)
  have hs5 : sz dv ≤ 5 := sz_le_iff.mpr (Nat.lt_of_le_of_lt hdv (by decide))
  have hbo := (bo_range dv).1
  have hbo' := (bo_range dv).2
  have e12 := zer_ints (n := many) (t := t0)
  have e11 := zer_get (v := Value.int 0 t0) hp
  have h326 : dv.natAbs < 32768 := Nat.lt_of_le_of_lt hdv (by decide)
  obtain ⟨np, hnp⟩ : ∃ np, np = p0 + (cod ls 0 (ds p) 0 dv).length := ⟨_, rfl⟩
  rw [← hnp] at ret
  rw [ec] at hnp hc
  rw [List.append_assoc] at hc
  rw [List.length_append, fig_length, fig_length, ← Nat.add_assoc] at hnp
  generalize (ls 0 (ds p)).2 = ln at *
  generalize (ls 0 (ds p)).1 = syms at *
  have hc2 := drop_app hc (fig_length _ ln)
  have hlen := drop_len hc hp0
  rw [List.length_append, fig_length, List.length_append, fig_length] at hlen
  intro g L h₁ mean mg mb tk F N X₁ T₁ En C' K
  have e1 := K _ _ X₂.oS
  have e2 := K _ _ X₂.oD
  have e3 := K _ _ X₂.oP
  have e4 := K _ _ X₂.oDl
  have e5 := K _ _ X₂.oAl
  have e6 := X₂.lP
  have e7 := X₂.m
  have e13 := K _ _ XT.oT
  have e14 := K _ _ XT.oD
  have e15 := DictOfH.keeps D K
  have e16 := HT.keeps K
  have e17 := En.ro nrow hrow
  k_extra "k_steps"
  · exact ret _ _ _ _ _ _ _ _ _ (by rw [hnp]; k_extra "m step")
  · have h0 : sz dv = 0 := by
      have q : ¬ (0 : Int) < (sz dv : Int) := by assumption
      (first | lia | omega)
    have hd0 := sz_zero.mp h0
    rw [h0, Nat.add_zero] at hnp
    rw [hd0] at ret
    exact ret _ _ _ _ _ _ _ _ _ (by rw [hnp]; k_extra "m step")
end
end

theorem words_of_R3 : True := by
  k_with "codeAny" => (((with_reducible show codeAny _ _ (Code.call (Value.ref 397) _) _ _); k_dflt (refine' dcr_read (by assumption) (by k_extra "m stay") (by k_extra "m room") (by k_extra "m room") (by k_extra "m own") (by assumption) (by assumption) (by first | assumption | omega) (by k_extra "m nq") (by k_extra "m nq") (by assumption) (by k_extra "m rd") (by k_extra "m nqs") (by assumption) (by assumption) (by assumption) (by assumption) (by assumption) (by assumption) ?_); intros; k_extra "m upS"))
  exact trivial
section
namespace G_R4
theorem in_R4 : True := trivial
end G_R4
open G_R4
section
variable {w : World} {dp un : Nat} {fr : Option (List Env)} {gd : Option (List Code)} {h₀ : Heap} {s : Shared} {R : Result → Shared → Prop}
theorem sqr_number (C : Stc w h₀) (k : h₀.StaysIn s.heap) {X : Addr}
  {x d : Addr} {b : Array UInt8} {ks rest : List Int} {p0 : Nat} {tb ta k1 k2 : Tok} {y dy bl sc TD : Addr} {j1 j2 j3 j4 j5 t4 : Tok} {v : Int} {tn : Tok} (hd : dp + 6 < recursionLimit) (hu : un + 60 < cLine) (O : News h₀ X s.heap ([(y, instObj 540 dy), (dy, sqrD w sc TD bl (.ref x) j1 j2 j3 j4 j5 t4), (x, instObj 302 d), (d, rdD w b tb (p0 : Nat) ta k1 k2)])) (hks : KBw.bInts b = ks) (hsz : ks.length ≤ 100000) (hp0 : p0 ≤ 8 * ks.length) (n1 : Nq y x) (n2 : Nq dy d) (hv : v.natAbs ≤ 31) (hc : (octs ks).drop p0 = fig (bo v) (sz v) ++ rest)
  (ret : ∀ t ta' (h' : Heap) (tk' : Nat), Step X s.heap h' ([(y, instObj 540 dy), (dy, sqrD w sc TD bl (.ref x) j1 j2 j3 j4 j5 t4), (x, instObj 302 d), (d, rdD w b tb (p0 : Nat) ta k1 k2)]) ([(y, instObj 540 dy), (dy, sqrD w sc TD bl (.ref x) j1 j2 j3 j4 j5 t4), (x, instObj 302 d), (d, rdD w b tb (p0 + sz v : Nat) ta' k1 k2)]) → R (.ok (.ret (.int v t))) { s with heap := h', toks := tk' }) :
  codeAny (model pw w) (ar dp fr gd un) (.call (.ref 523) ⟨[.ref y, .int (sz v : Int) tn], []⟩) R s := by
  refine' begin ([(y, instObj 540 dy), (dy, sqrD w sc TD bl (.ref x) j1 j2 j3 j4 j5 t4), (x, instObj 302 d), (d, rdD w b tb (p0 : Nat) ta k1 k2)]) [(Str.ofString "self", .ref y), (Str.ofString "size", .int (sz v : Int) tn)] (st := sub 34 2) C k (News.ent O) ?ho ?he ?hcd ?hroom ?hbind ?hsc ?_
  case ho => k_is
  case he => exact rfl
  case hcd => k_is
  case hroom => exact lt_of_add hd
  case hbind => exact rfl
  case hsc => exact rfl
  have hs5 : sz v ≤ 5 := sz_le_iff.mpr (Nat.lt_of_le_of_lt hv (by decide))
  have hbo := (bo_range v).1
  have hbo' := (bo_range v).2
  have h326 : v.natAbs < 32768 := Nat.lt_of_le_of_lt hv (by decide)
  have hs16 : sz v ≤ 16 := Nat.le_trans hs5 (by decide)
  intro g L h₁ mean mg mb tk F N X₁ T₁ En C' K
  k_extra "k_steps"
  exact ret _ _ _ _ (by k_extra "m step")
theorem line_33 : True := by
  k_with "codeAny" => (guard_expr in_R4 =~ in_R4; ((with_reducible show codeAny _ _ (Code.call (Value.ref 523) _) _ _); k_dflt (refine' sqr_number (by assumption) (by k_extra "m stay") (by k_extra "m room") (by k_extra "m room") (by k_extra "m own") (by assumption) (by assumption) (by first | assumption | omega) (by k_extra "m nq") (by k_extra "m nq") (by assumption) (by assumption) ?_); intros; k_extra "m upS"))
  exact trivial
theorem sqr_finish (C : Stc w h₀) (k : h₀.StaysIn s.heap) {X : Addr}
  {x d : Addr} {b : Array UInt8} {ks : List Int} {p0 : Nat} {tb ta k1 k2 : Tok} {y dy bl sc TD : Addr} {j1 j2 j3 j4 j5 t4 : Tok} (hd : dp + 6 < recursionLimit) (hu : un + 60 < cLine) (O : News h₀ X s.heap ([(y, instObj 540 dy), (dy, sqrD w sc TD bl (.ref x) j1 j2 j3 j4 j5 t4), (x, instObj 302 d), (d, rdD w b tb (p0 : Nat) ta k1 k2)])) (hks : KBw.bInts b = ks) (hsz : ks.length ≤ 100000) (hp0 : p0 ≤ 8 * ks.length) (n1 : Nq y x) (n2 : Nq dy d) (hp7 : 8 * ks.length ≤ p0 + 7)
  (ret : ∀ (h' : Heap) (tk' : Nat), Step X s.heap h' ([(y, instObj 540 dy), (dy, sqrD w sc TD bl (.ref x) j1 j2 j3 j4 j5 t4), (x, instObj 302 d), (d, rdD w b tb (p0 : Nat) ta k1 k2)]) ([(y, instObj 540 dy), (dy, sqrD w sc TD bl (.ref x) j1 j2 j3 j4 j5 t4), (x, instObj 302 d), (d, rdD w b tb (p0 : Nat) ta k1 k2)]) → R (.ok (.ret .none)) { s with heap := h', toks := tk' }) :
  codeAny (model pw w) (ar dp fr gd un) (.call (.ref 537) ⟨[.ref y], []⟩) R s := by
  refine' begin ([(y, instObj 540 dy), (dy, sqrD w sc TD bl (.ref x) j1 j2 j3 j4 j5 t4), (x, instObj 302 d), (d, rdD w b tb (p0 : Nat) ta k1 k2)]) [(Str.ofString "self", .ref y)] (st := sub 34 4) C k (News.ent O) ?ho ?he ?hcd ?hroom ?hbind ?hsc ?_
  case ho => k_is
  case he => exact rfl
  case hcd => k_is
  case hroom => exact lt_of_add hd
  case hbind => exact rfl
  case hsc => exact rfl
  intro g L h₁ mean mg mb tk F N X₁ T₁ En C' K
  k_extra "k_steps"
  exact ret _ _ (by k_extra "m step")
theorem dcr_finish (C : Stc w h₀) (k : h₀.StaysIn s.heap) {X : Addr}
  {y : Addr} (hd : dp + 6 < recursionLimit) (hu : un + 60 < cLine) (O : News h₀ X s.heap ([]))
  (ret : ∀ (h' : Heap) (tk' : Nat), Step X s.heap h' ([]) ([]) → R (.ok (.ret .none)) { s with heap := h', toks := tk' }) :
  codeAny (model pw w) (ar dp fr gd un) (.call (.ref 404) ⟨[.ref y], []⟩) R s := by
  refine' begin ([]) [(Str.ofString "self", .ref y)] (st := sub 26 3) C k (News.ent O) ?ho ?he ?hcd ?hroom ?hbind ?hsc ?_
  case ho => k_is
  case he => exact rfl
  case hcd => k_is
  case hroom => exact lt_of_add hd
  case hbind => exact rfl
  case hsc => exact rfl
  intro g L h₁ mean mg mb tk F N X₁ T₁ En C' K
  k_extra "k_steps"
  exact ret _ _ (by k_extra "m step")
end
end

theorem words_of_R4 : True := by
  k_with "codeAny" => (((with_reducible show codeAny _ _ (Code.call (Value.ref 523) _) _ _); k_dflt (refine' sqr_number (by assumption) (by k_extra "m stay") (by k_extra "m room") (by k_extra "m room") (by k_extra "m own") (by assumption) (by assumption) (by first | assumption | omega) (by k_extra "m nq") (by k_extra "m nq") (by assumption) (by assumption) ?_); intros; k_extra "m upS"))
  k_with "codeAny" => (((with_reducible show codeAny _ _ (Code.call (Value.ref 537) _) _ _); k_dflt (refine' sqr_finish (by assumption) (by k_extra "m stay") (by k_extra "m room") (by k_extra "m room") (by k_extra "m own") (by assumption) (by assumption) (by first | assumption | omega) (by k_extra "m nq") (by k_extra "m nq") (by first | assumption | omega) ?_); intros; k_extra "m upS"))
  k_with "codeAny" => (((with_reducible show codeAny _ _ (Code.call (Value.ref 404) _) _ _); k_dflt (refine' dcr_finish (by assumption) (by k_extra "m stay") (by k_extra "m room") (by k_extra "m room") (by k_extra "m own") ?_); intros; k_extra "m upS"))
  exact trivial
section
namespace G_R5
theorem in_R5 : True := trivial
end G_R5
open G_R5
/-- the codes of a block's other numbers, read from the head -/
def acR (ls : Int → Int → List Int × Nat) (b : Int) : Int → List Int → List Int
  | run, [] => if run > 0 then fig (((ls 1 b).1.idxOf 0 : Nat) : Int) (ls 1 b).2 else []
  | run, v :: r => if v = 0 then acR ls b (run + 1) r else cod ls 1 b run v ++ acR ls b 0 r
theorem acR_go (ls : Int → Int → List Int × Nat) (b : Int) : ∀ (vs : List Int) (run : Int) (A : List Int),
    (vs.foldl (acGo ls b) (A, run)).1 ++ (if (vs.foldl (acGo ls b) (A, run)).2 > 0 then fig (((ls 1 b).1.idxOf 0 : Nat) : Int) (ls 1 b).2 else []) = A ++ acR ls b run vs
  | [], run, A => rfl
  | v :: r, run, A => by
    rw [List.foldl_cons]
    show ((r.foldl (acGo ls b) (acGo ls b (A, run) v)).1 ++ _) = A ++ (if v = 0 then acR ls b (run + 1) r else cod ls 1 b run v ++ acR ls b 0 r)
    by_cases h : v = 0
    · rw [if_pos h, show acGo ls b (A, run) v = (A, run + 1) by unfold acGo; rw [if_pos h]]
      exact acR_go ls b r (run + 1) A
    · rw [if_neg h, show acGo ls b (A, run) v = (A ++ cod ls 1 b run v, 0) by unfold acGo; rw [if_neg h]]
      rw [acR_go ls b r 0 (A ++ cod ls 1 b run v), List.append_assoc]
theorem acs_is (ls : Int → Int → List Int × Nat) (b : Int) (vs : List Int) : acs ls b vs = acR ls b 0 vs := (acR_go ls b vs 0 []).trans (List.nil_append _)
theorem acR_cases (ls : Int → Int → List Int × Nat) (b : Int) : ∀ (vs : List Int) (run : Nat),
    ((∀ v ∈ vs, v = 0) ∧ acR ls b run vs = if run + vs.length > 0 then fig (((ls 1 b).1.idxOf 0 : Nat) : Int) (ls 1 b).2 else []) ∨
    ∃ (z : Nat) (v : Int) (rest : List Int), vs = List.replicate z 0 ++ v :: rest ∧ v ≠ 0 ∧ acR ls b run vs = cod ls 1 b ((run + z : Nat) : Int) v ++ acR ls b 0 rest
  | [], run => .inl ⟨(fun _ h => nomatch h), by show (if (run : Int) > 0 then fig (((ls 1 b).1.idxOf 0 : Nat) : Int) (ls 1 b).2 else []) = _; by_cases h : run > 0 <;> simp [h]⟩
  | v :: r, run => by
    by_cases h : v = 0
    · have e : acR ls b run (v :: r) = acR ls b ((run + 1 : Nat) : Int) r := by show (if v = 0 then _ else _) = _; rw [if_pos h]; rfl
      rcases acR_cases ls b r (run + 1) with ⟨a, q⟩ | ⟨z, u, rest, a, c, q⟩
      · refine .inl ⟨fun x hx => ?_, ?_⟩
        · rcases List.mem_cons.mp hx with rfl | hx; exact h; exact a x hx
        · rw [e, q, if_pos (by (first | lia | omega)), if_pos (by simp only [List.length_cons]; (first | lia | omega))]
      · refine .inr ⟨z + 1, u, rest, by rw [a, h, List.replicate_succ]; rfl, c, ?_⟩
        rw [e, q, show run + 1 + z = run + (z + 1) by (first | lia | omega)]
    · refine .inr ⟨0, v, r, rfl, h, ?_⟩
      show (if v = 0 then _ else _) = _
      rw [if_neg h]; rfl
/-- the block as read so far -/
def half (R : List Int) (k : Nat) : List Int := R.take k ++ List.replicate (4 - k) 0
theorem sub_news {h₀ h : Heap} {L : Addr} {news : List (Addr × Obj)} (N : News h₀ L h news) (l : List (Addr × Obj)) (hs : ∀ p ∈ l, p ∈ news) : News h₀ L h l := fun p hp => N p (hs p hp)
theorem ia_eq {a : List Value} {b c : List Int} (h : IntsAre a b) (e : b = c) : IntsAre a c := e ▸ h
theorem half_all {R : List Int} {k : Nat} (hl : R.length = 4) (hk : k ≤ 4) (h : ∀ v ∈ R.drop k, v = 0) : half R k = R := by
  have e : R.drop k = List.replicate (4 - k) 0 := by
    rw [List.eq_replicate_iff]; exact ⟨by rw [List.length_drop, hl], h⟩
  unfold half
  rw [← e, List.take_append_drop]
theorem half_set {R rest : List Int} {k z : Nat} {v : Int} (hl : R.length = 4) (hk : k ≤ 4) (h : R.drop k = List.replicate z 0 ++ v :: rest) : k + z < 4 ∧ (half R k).set (k + z) v = half R (k + z + 1) ∧ R.drop (k + z + 1) = rest := by
  have l := congrArg List.length h
  rw [List.length_drop, hl, List.length_append, List.length_replicate, List.length_cons] at l
  have h1 : k + z < 4 := by (first | lia | omega)
  have tk : (R.take k).length = k := by rw [List.length_take, hl]; (first | lia | omega)
  have eR : R = R.take k ++ (List.replicate z 0 ++ v :: rest) := by rw [← h, List.take_append_drop]
  refine ⟨h1, ?_, ?_⟩
  · have e4 : List.replicate (4 - k) (0 : Int) = List.replicate z 0 ++ 0 :: List.replicate (4 - (k + z + 1)) 0 := by
      rw [← List.replicate_succ, List.replicate_append_replicate]; congr 1; (first | lia | omega)
    have t2 : R.take (k + z + 1) = R.take k ++ (List.replicate z 0 ++ [v]) := by
      conv => lhs; rw [eR]
      rw [show k + z + 1 = (R.take k).length + (z + 1) by rw [tk]; (first | lia | omega), List.take_length_add_append, show (List.replicate z (0 : Int) ++ v :: rest) = (List.replicate z 0 ++ [v]) ++ rest by simp, show z + 1 = (List.replicate z (0 : Int) ++ [v]).length by simp, List.take_left]
    unfold half
    rw [t2, e4, List.set_append_right _ _ (by rw [tk]; (first | lia | omega)), tk, show k + z - k = z by (first | lia | omega), List.set_append_right _ _ (by simp), List.length_replicate, Nat.sub_self, List.set_cons_zero]
    simp
  · rw [show k + z + 1 = k + (z + 1) by (first | lia | omega), ← List.drop_drop, h, show List.replicate z (0 : Int) ++ v :: rest = (List.replicate z 0 ++ [v]) ++ rest by simp, show z + 1 = (List.replicate z (0 : Int) ++ [v]).length by simp, List.drop_left]
theorem split16 (z n : Nat) (h : n < 16) : (16 * (z : Int) + (n : Int)).fdiv 16 = (z : Int) ∧ (16 * (z : Int) + (n : Int)).fmod 16 = (n : Int) := by
  rw [Int.fdiv_eq_ediv_of_nonneg _ (by decide), Int.fmod_eq_emod_of_nonneg _ (by decide)]
  (first | lia | omega)
theorem fdiv_as {prog : Program} {w : World} {A : Around} {E : Value → Shared → Prop} {s : Shared} {z n : Nat} {t u : Tok} {Q : Value → Shared → Prop} (hn : n < 16) (hz : z < 16) (h : Q (.int z s.toks) { s with toks := s.toks + 1 }) : wpAny (model prog w) A (binaryOp .FloorDiv (.int (16 * (z : Int) + (n : Int)) t) (.int 16 u)) Q E s :=
  floordiv_int (by decide) (by rw [(split16 z n hn).1]; exact h) (.inl (PyProof.noPylong_small (by (first | lia | omega))))
theorem fmod_as {prog : Program} {w : World} {A : Around} {E : Value → Shared → Prop} {s : Shared} {z n : Nat} {t u : Tok} {Q : Value → Shared → Prop} (hn : n < 16) (h : Q (.int n s.toks) { s with toks := s.toks + 1 }) : wpAny (model prog w) A (binaryOp .Mod (.int (16 * (z : Int) + (n : Int)) t) (.int 16 u)) Q E s :=
  mod_int' (by decide) (by rw [(split16 z n hn).2]; exact h)
theorem line_34 : True := by
  k_with "binaryOp FloorDiv int int" => (guard_expr in_R5 =~ in_R5; (k_here; k_dflt (refine' fdiv_as (by (first | lia | omega)) (by (first | lia | omega)) ?_)))
  exact trivial
theorem line_35 : True := by
  k_with "binaryOp Mod int int" => (guard_expr in_R5 =~ in_R5; (k_here; k_dflt (refine' fmod_as (by (first | lia | omega)) ?_)))
  exact trivial
theorem castadd1 (a : Nat) : (a : Int) + 1 = ((a + 1 : Nat) : Int) := by (first | lia | omega)
theorem line_36 : True := by
  k_with "binaryOp Add int int" => (guard_expr in_R5 =~ in_R5; (k_here; (with_reducible refine add_as (Int.zero_add _) ?_)))
  exact trivial
theorem line_37 : True := by
  k_with "binaryOp Add int int" => (guard_expr in_R5 =~ in_R5; (k_here; (with_reducible refine add_as (castadd _ _) ?_)))
  exact trivial
theorem line_38 : True := by
  k_with "binaryOp Add int int" => (guard_expr in_R5 =~ in_R5; (k_here; (with_reducible refine add_as (castadd1 _) ?_)))
  exact trivial
theorem line_39 : True := by
  k_with "subscriptTail" => (guard_expr in_R5 =~ in_R5; (k_here; (with_reducible show wpAny _ _ (subscriptTail _ _ (Value.ref _) (Value.int _ _)) _ _ _); k_dflt (refine' lst_itemN (by k_asm) (by k_mem) (by exact set_zer (by assumption)) (by (first | lia | omega)) ?_)))
  exact trivial
section
variable {w : World} {dp un : Nat} {fr : Option (List Env)} {gd : Option (List Code)} {h₀ : Heap} {s : Shared} {R : Result → Shared → Prop}
theorem sqr_read (C : Stc w h₀) (k : h₀.StaysIn s.heap) {X : Addr}
  {x d : Addr} {b : Array UInt8} {ks rest : List Int} {p0 : Nat} {tb ta k1 k2 : Tok} {y dy bl sc TD : Addr} {j1 j2 j3 j4 j5 t4 : Tok} {row : Addr} {t0 tp : Tok} {nb : Nat} {many p low : Nat} {ds as : Nat → Int} {en : Int} {ls : Int → Int → List Int × Nat} {c0 c1 c2 c3 : Int} (hd : dp + 12 < recursionLimit) (hu : un + 150 < cLine) (O : News h₀ X s.heap ([(y, instObj 540 dy), (dy, sqrD w sc TD bl (.ref x) j1 j2 j3 j4 j5 t4), (x, instObj 302 d), (d, rdD w b tb (p0 : Nat) ta k1 k2), (bl, listOf (List.replicate (Int.toNat ((many : Nat) : Int)) [Value.int 0 t0]).flatten.toArray nb)])) (hks : KBw.bInts b = ks) (hsz : ks.length ≤ 100000) (hp0 : p0 ≤ 8 * ks.length) (n1 : Nq y x) (n2 : Nq dy d) (H : Tabs w h₀ TD ls) (hsc : ScanAt w h₀ sc many ds as en low) (hp : p < many) (V : Cover ls) (hc : (octs ks).drop p0 = cod ls 0 (ds p) 0 c0 ++ acs ls (as p) [c1, c2, c3] ++ rest) (hC0 : c0.natAbs ≤ 31) (hC1 : c1.natAbs ≤ 31) (hC2 : c2.natAbs ≤ 31) (hC3 : c3.natAbs ≤ 31)
  (ret : ∀ D vals n1 ta' (h' : Heap) (tk' : Nat), IntsAre vals [c0, c1, c2, c3] → Step X s.heap h' ([(y, instObj 540 dy), (dy, sqrD w sc TD bl (.ref x) j1 j2 j3 j4 j5 t4), (x, instObj 302 d), (d, rdD w b tb (p0 : Nat) ta k1 k2), (bl, listOf (List.replicate (Int.toNat ((many : Nat) : Int)) [Value.int 0 t0]).flatten.toArray nb)]) ([(y, instObj 540 dy), (dy, sqrD w sc TD bl (.ref x) j1 j2 j3 j4 j5 t4), (x, instObj 302 d), (d, rdD w b tb (p0 + (cod ls 0 (ds p) 0 c0 ++ acs ls (as p) [c1, c2, c3]).length : Nat) ta' k1 k2), (D, listOf (List.toArray vals) n1)]) → R (.ok (.ret (.ref D))) { s with heap := h', toks := tk' }) :
  codeAny (model pw w) (ar dp fr gd un) (.call (.ref 530) ⟨[.ref y, .int p tp, .ref row], []⟩) R s := by
  refine ScanAt.elim hsc ?_; intro dsc pl dl al q1 q2 q3 q4 q5 q6 q7 u1 u2 u3 u4 pvs dvs avs np nd na X₂
  refine' begin ([(y, instObj 540 dy), (dy, sqrD w sc TD bl (.ref x) j1 j2 j3 j4 j5 t4), (x, instObj 302 d), (d, rdD w b tb (p0 : Nat) ta k1 k2), (bl, listOf (List.replicate (Int.toNat ((many : Nat) : Int)) [Value.int 0 t0]).flatten.toArray nb)]) [(Str.ofString "self", .ref y), (Str.ofString "place", .int p tp), (Str.ofString "row", .ref row)] (st := sub 34 3) C k (News.ent O) ?ho ?he ?hcd ?hroom ?hbind ?hsc ?_
  case ho => k_is
  case he => exact rfl
  case hcd => k_is
  case hroom => exact lt_of_add hd
  case hbind => exact rfl
  case hsc => exact rfl
  have e8 := X₂.d01 p
  have e8' := X₂.a01 p
  obtain ⟨tds, e9⟩ := X₂.d p hp
  obtain ⟨tas, e9'⟩ := X₂.a p hp
  obtain ⟨xs, D, rT⟩ := id H
  obtain ⟨kka, T, eT, HT⟩ := rT 0 (ds p) (.inl rfl) e8
  refine Tbl.elim HT ?_; intro dT st rs cd cv kq1 kq2 kq3 kq4 vs rvs ns nr' ff XT
  obtain ⟨kkb, U, eU, HU⟩ := rT 1 (as p) (.inr rfl) e8'
  clear rT
  refine Tbl.elim HU ?_; intro dU sU rU cU cvU ku1 ku2 ku3 ku4 vsU rvsU nsU nrU ffU XU
  have hi := idx_get (V.dc (ds p) c0 e8 hC0)
  rw [Int.mul_zero, Int.zero_add] at hi
  have ec : cod ls 0 (ds p) 0 c0 = fig ((((ls 0 (ds p)).1.idxOf (sz c0 : Int) : Nat)) : Int) (ls 0 (ds p)).2 ++ fig (bo c0) (sz c0) := by
    unfold cod; rw [Int.mul_zero, Int.zero_add]
  have hln := V.len 0 (ds p)
  have hs5 : sz c0 ≤ 5 := sz_le_iff.mpr (Nat.lt_of_le_of_lt hC0 (by decide))
  have e12 := zer_ints (n := many) (t := t0)
  have e11 := zer_get (v := Value.int 0 t0) hp
  obtain ⟨np, hnp⟩ : ∃ np, np = p0 + (cod ls 0 (ds p) 0 c0 ++ acs ls (as p) [c1, c2, c3]).length := ⟨_, rfl⟩
  rw [← hnp] at ret
  rw [ec, acs_is] at hnp hc
  rw [List.append_assoc, List.append_assoc] at hc
  rw [List.length_append, List.length_append, fig_length, fig_length, ← Nat.add_assoc, ← Nat.add_assoc] at hnp
  generalize (ls 0 (ds p)).2 = ln at *
  generalize (ls 0 (ds p)).1 = syms at *
  have hc2 := drop_app hc (fig_length _ ln)
  have hc3 := drop_app hc2 (fig_length _ (sz c0))
  have hlen := drop_len hc hp0
  rw [List.length_append, fig_length, List.length_append, fig_length, List.length_append] at hlen
  intro g L h₁ mean mg mb tk F N X₁ T₁ En C' K
  have e1 := K _ _ X₂.oS
  have e2 := K _ _ X₂.oD
  have e3 := K _ _ X₂.oP
  have e4 := K _ _ X₂.oDl
  have e5 := K _ _ X₂.oAl
  have e6 := X₂.lP
  have e7 := X₂.m
  have e13 := K _ _ XT.oT
  have e14 := K _ _ XT.oD
  have e15 := DictOfH.keeps D K
  have e16 := HT.keeps K
  have e17 := K _ _ XU.oT
  have e18 := K _ _ XU.oD
  have e19 := HU.keeps K
  clear X₂ XT XU
  k_extra "k_steps"
  rename_i tz0 _ _ _ DF _ _ _ _ _ _ _ _ _ _ _ _ _ _ tS _ _ _ _ _ _ tA _ tq _ _ _ _ _ hi9 _ _ _ _ _ _ _ _ _ F9 N9
  have N10 := News.sub N9 (S := [(DF, listOf ((List.replicate (Int.toNat 4) [Value.int 0 tz0]).flatten.set (Int.toNat 0) (.int c0 tq)).toArray 0), (y, instObj 540 dy), (dy, sqrD w sc TD bl (.ref x) j1 j2 j3 j4 j5 t4), (x, instObj 302 d), (d, rdD w b tb ((p0 + ln + sz c0 : Nat) : Int) tA k1 k2)]) (by k_extra "m sb")
  have nDF : NqL DF [y, dy, x, d] := by k_extra "m nqs"
  clear N9
  have hRl : [c0, c1, c2, c3].length = 4 := rfl
  have hR31 : ∀ v ∈ [c0, c1, c2, c3], v.natAbs ≤ 31 := by
    intro v hv
    simp only [List.mem_cons, List.not_mem_nil, or_false] at hv
    rcases hv with rfl | rfl | rfl | rfl <;> assumption
  have hi9' := ia_eq hi9 (show _ = half [c0, c1, c2, c3] 1 from rfl)
  clear hi9
  generalize hR : [c0, c1, c2, c3] = R at ret hRl hR31 hi9'
  have hacR : acR ls (as p) 0 [c1, c2, c3] = acR ls (as p) 0 (R.drop 1) := by rw [← hR]; rfl
  rw [hacR] at hnp hc3 hlen
  have hlnU := V.len 1 (as p)
  clear hR hacR
  refine' while_inv (fun n m news => ∃ kk p' vals tK us ur uz ta', m = (fun y_1 => if y_1 = Str.ofString "k" then some (.int (kk : Nat) tK) else if y_1 = Str.ofString "run" then ur else if y_1 = Str.ofString "size" then uz else if y_1 = Str.ofString "symbol" then us else if y_1 = Str.ofString "table" then some (.ref U) else if y_1 = Str.ofString "found" then some (.ref DF) else List.lookup y_1 [(Str.ofString "self", .ref y), (Str.ofString "place", .int p tp), (Str.ofString "row", .ref row)].reverse)
    ∧ news = [(DF, listOf (List.toArray vals) 0), (y, instObj 540 dy), (dy, sqrD w sc TD bl (.ref x) j1 j2 j3 j4 j5 t4), (x, instObj 302 d), (d, rdD w b tb (p' : Nat) ta' k1 k2)]
    ∧ n = 4 - kk ∧ (1 ≤ kk ∧ kk ≤ 4) ∧ IntsAre vals (half R kk) ∧ (octs ks).drop p' = acR ls (as p) 0 (R.drop kk) ++ rest ∧ p' + (acR ls (as p) 0 (R.drop kk)).length = p0 + ln + sz c0 + (acR ls (as p) 0 (R.drop 1)).length ∧ p' ≤ 8 * ks.length) PassesOwn.never ?turn ?h0 F9 N10
  case h0 => exact mk8 (a0 := 1) (a1 := p0 + ln + sz c0) (a4 := none) (a5 := none) (a6 := some (.int (sz c0 : Int) tS)) ⟨ag_start (ag_both (ag_r (lk_miss (by decide +kernel) (lk_miss (by decide +kernel) (lk_miss (by decide +kernel) rfl))) (ag_l (lk_miss (by decide +kernel) (lk_miss (by decide +kernel) lk_hit)) (ag_both (ag_r (lk_miss (by decide +kernel) rfl) (ag_rs (.tail _ (.tail _ (.head _))) (ag_both ag_rfl))))))), rfl, rfl, ⟨by decide, by decide⟩, hi9', hc3, rfl, by (first | lia | omega)⟩
  case turn =>
    clear F9 N10 hi9' hc3 hlen hc2 hc hi
    intro n m news h tk hJ F₁ N₁
    (with_reducible refine ex8 hJ ?_); clear hJ; intro kk p' vals tK us ur uz ta' hJ
    (with_reducible refine conj8 hJ ?_); clear hJ; intro hm9 hn9 hn8 hk14 hvals hdp hpe hp8
    replace F₁ := Fr.cast hm9 F₁; replace N₁ := News.cast hn9 N₁; clear hm9 hn9
    subst hn8
    have hhl : (half R kk).length = 4 := by rw [half, List.length_append, List.length_take, List.length_replicate, hRl]; (first | lia | omega)
    (show wpAny _ _ _ _ _ _); k_fold
    rcases Nat.lt_or_ge kk 4 with hk4 | hk4
    · rcases acR_cases ls (as p) (R.drop kk) 0 with ⟨hz0, hac⟩ | ⟨z, v, rs2, hdr, hv0, hac⟩
      · rw [if_pos (by rw [List.length_drop, hRl]; (first | lia | omega))] at hac
        have hac : acR ls (as p) 0 (R.drop kk) = _ := hac
        rw [hac] at hdp hpe
        have hi0 := idx_get (V.ac0 (as p) e8')
        have hiS : (ls 1 (as p)).1[(ls 1 (as p)).1.idxOf 0]? = some (16 * ((0 : Nat) : Int) + ((0 : Nat) : Int)) := hi0
        have hfull := half_all hRl (by (first | lia | omega)) hz0
        rw [hfull] at hvals
        rw [fig_length] at hpe
        k_extra "k_steps"
        rw [← hpe] at hnp
        exact TEnd.ret (ret _ _ _ _ _ _ (by assumption) (by rw [hnp]; k_extra "m step"))
      · obtain ⟨hkz, hset, hdr2⟩ := half_set hRl hk14.2 hdr
        have hac : acR ls (as p) 0 (R.drop kk) = cod ls 1 (as p) ((0 + z : Nat) : Int) v ++ acR ls (as p) 0 rs2 := hac
        have hvm : v ∈ R := List.mem_of_mem_drop (by rw [hdr]; simp)
        have hv31 := hR31 v hvm
        have hs5v : sz v ≤ 5 := sz_le_iff.mpr (by (first | lia | omega))
        have hsv : 0 < sz v := Nat.pos_of_ne_zero fun q => hv0 (sz_zero.mp q)
        have hiS := idx_get (V.ac (as p) (z : Nat) v e8' (by (first | lia | omega)) (by (first | lia | omega)) hv0 hv31)
        rw [hac, Nat.zero_add, cod, List.append_assoc, List.append_assoc] at hdp
        rw [hac, Nat.zero_add, cod, List.length_append, List.length_append, fig_length, fig_length] at hpe
        have hdp2 := drop_app hdp (fig_length _ _)
        have hdp3 := drop_app hdp2 (fig_length _ _)
        have hl9 := drop_len hdp hp8
        rw [List.length_append, fig_length, List.length_append, fig_length] at hl9
        k_extra "k_steps"
        all_goals first | (exfalso; (first | lia | omega)) | skip
        refine' TEnd.nextW (by assumption) (News.sub (by assumption) (by k_extra "m sb")) ⟨4 - (kk + z + 1), (by (first | lia | omega)), mk8 (a0 := kk + z + 1) (a1 := p' + (ls 1 (as p)).2 + sz v) ⟨?zmap, rfl, rfl, ⟨by (first | lia | omega), by (first | lia | omega)⟩, ia_eq (by assumption) hset, (by rw [hdr2]; exact hdp3), (by rw [hdr2]; (first | lia | omega)), (by (first | lia | omega))⟩⟩
        case zmap => exact ag_start (ag_both (ag_ls (.head _) (ag_both (ag_both (ag_both (ag_ls (.tail _ (.tail _ (.tail _ (.head _)))) (ag_ls (.tail _ (.tail _ (.head _))) (ag_ls (.tail _ (.head _)) (ag_ls (.head _) (ag_both (ag_both ag_rfl)))))))))))
    · obtain rfl : kk = 4 := by (first | lia | omega)
      have hfull := half_all hRl (Nat.le_refl 4) (by rw [List.drop_eq_nil_of_le (by (first | lia | omega))]; exact fun _ h => nomatch h)
      rw [hfull] at hvals
      rw [List.drop_eq_nil_of_le (by (first | lia | omega))] at hpe
      have hpe : p' = _ := hpe
      k_extra "k_steps"
      rw [← hpe] at hnp
      exact ret _ _ _ _ _ _ (by assumption) (by rw [hnp]; k_extra "m step")
end
end

theorem words_of_R5 : True := by
  k_with "codeAny" => (((with_reducible show codeAny _ _ (Code.call (Value.ref 530) _) _ _); k_dflt (refine' sqr_read (by assumption) (by k_extra "m stay") (by k_extra "m room") (by k_extra "m room") (by k_extra "m own") (by assumption) (by assumption) (by first | assumption | omega) (by k_extra "m nq") (by k_extra "m nq") (by assumption) (by assumption) (by assumption) (by assumption) (by assumption) (by assumption) (by assumption) (by assumption) (by assumption) ?_); intros; k_extra "m upS"))
  exact trivial
section
namespace G_La
theorem in_La : True := trivial
end G_La
open G_La
theorem NqL.of_add {d : Addr} {news : List (Addr × Obj)} (h : ∀ p ∈ news, p.1 < d) (k : Nat) : NqL ((d : Nat) + k) (news.map (·.1)) := ⟨fun a ha => by
  obtain ⟨p, hp, rfl⟩ := List.mem_map.mp ha
  exact Nat.ne_of_lt (Nat.lt_of_lt_of_le (h p hp) (Nat.le_add_right d k))⟩
theorem NqL.of_off {d : Nat} {news : List (Addr × Obj)} (h : Off d news) : NqL d (news.map (·.1)) := ⟨fun a ha => by
  obtain ⟨p, hp, rfl⟩ := List.mem_map.mp ha
  exact h p hp⟩
theorem ints_snoc {vs : List Value} {ns : List Int} (h : IntsAre vs ns) (x : Int) (t : Tok) : IntsAre (vs ++ [.int x t]) (ns ++ [x]) := by
  induction h with
  | nil => exact .cons x t .nil
  | cons i u _ ih => exact .cons i u ih
theorem fig_take {v : Int} {n i : Nat} (hi : i < n) : (fig v n).take (i + 1) = (fig v n).take i ++ [(v.fdiv (2 ^ Int.toNat ((n : Int) - 1 - (0 + (i : Int))))).fmod 2] := by
  rw [List.take_add_one, fig_get v n i hi, show Int.toNat ((n : Int) - 1 - (0 + (i : Int))) = n - 1 - i by (first | lia | omega), Int.fdiv_eq_ediv_of_nonneg _ (Int.le_of_lt (p2 _)), Int.fmod_eq_emod_of_nonneg _ (by decide)]
  rfl
theorem lst_add {prog : Program} {w : World} {A : Around} {E : Value → Shared → Prop} {h₀ h : Heap} {gs : Array GenState} {dr : Drawn} {tk : Nat} {os : OsState} {L a b : Addr} {m : Str → Option Value} {news : List (Addr × Obj)} {va vb : List Value} {na nb : Nat} {Q : Value → Shared → Prop}
    (F : Fr h₀ L h m) (N : News h₀ L h news) (ha : (a, listOf va.toArray na) ∈ news) (hb : (b, listOf vb.toArray nb) ∈ news) (hz : va.length + vb.length ≤ 16777216)
    (hq : ∀ D h', Fr h₀ L h' m → News h₀ L h' ((D, listOf (va ++ vb).toArray 0) :: news) → (∀ p ∈ news, p.1 < D) → Q (.ref D) ⟨h', gs, dr, tk, os⟩) :
    wpAny (model prog w) A (binaryOp .Add (.ref a) (.ref b)) Q E ⟨h, gs, dr, tk, os⟩ :=
  add_arrays (s := ⟨h, gs, dr, tk, os⟩) F N (News.isList N ha) (News.isList N hb) (fun h' F' N' => hq _ h' F' (by simpa using N') fun p hp => Heap.lt_size (N p hp).1) (by rw [sizeLine_eq]; simpa using hz)
theorem comp_enter {prog : Program} {w : World} {A : Around} {s : Shared} {env : Env} {Q : Value → Shared → Prop} {elt iter : Expr} {x : Str} {px : Pos} {scope : Scope} {pos : Pos} {cl : List (Str × Addr)}
    (hclos : closureFor scope env = pure cl) (hkind : scope.kind = .function) (hnames : ∀ x ∈ scope.names, x.2 = .local → scope.names.lookup x.1 = some .local)
    (h : wpAny (model prog w) A (eval iter env) (fun xv s₁ => wpAny (model prog w) A (pyIter xv) (fun it s₂ => wpAny (model prog w) A (newList []) (fun acc s₃ => wpAny (model prog w) A (newFunctionEnv scope env.globals cl [] env.qual none .none (some env)) (fun cenv s₄ =>
      codeAny (model prog w) A (.compStart (.ListComp elt [⟨.Name x px, iter, [], 0⟩] scope pos) 0 it acc { cenv with scope := relabel scope env }) (compPost (model prog w) A NoX none Q acc cenv.locals) s₄) NoX s₃) NoX s₂) NoX s₁) NoX s)
    (hs : ∀ x, foldedSetIterable iter env x = pure x := by intro _; rfl) : wpAny (model prog w) A (eval (.ListComp elt [⟨.Name x px, iter, [], 0⟩] scope pos) env) Q NoX s := by
  rw [eval_ListComp]; exact wpAny_comprehension_free rfl hs hclos hkind hnames h
theorem line_40 : True := by
  k_with "eval ListComp" => (guard_expr in_La =~ in_La; (show wpAny _ _ _ _ _ _; refine stop ?_))
  exact trivial
section
variable {w : World} {dp un : Nat} {fr : Option (List Env)} {gd : Option (List Code)} {h₀ : Heap} {s : Shared} {R : Result → Shared → Prop}
theorem lfig (C : Stc w h₀) (k : h₀.StaysIn s.heap) {X : Addr}
  {v : Int} {n : Nat} {tv tn : Tok} (hd : dp + 2 < recursionLimit) (hu : un + 30 < cLine) (hn : n ≤ 16) (hv : v.natAbs ≤ 2000000) (O : News h₀ X s.heap ([]))
  (ret : ∀ D vals n1 (h' : Heap) (tk' : Nat), IntsAre vals (fig v n) → vals.length = n → Step X s.heap h' ([]) ([(D, listOf (List.toArray vals) n1)]) → R (.ok (.ret (.ref D))) { s with heap := h', toks := tk' }) :
  codeAny (model pw w) (ar dp fr gd un) (.call (.ref 615) ⟨[.int v tv, .int n tn], []⟩) R s := by
  refine' beginX ([]) [(Str.ofString "value", .int v tv), (Str.ofString "many", .int n tn)] (st := stm 42) C k (News.ent O) ?ho ?he ?hcd ?hroom ?hbind ?hsc ?hnd ?_
  case ho => k_is
  case he => exact rfl
  case hcd => k_is
  case hroom => exact lt_of_add hd
  case hbind => exact rfl
  case hsc => exact rfl
  case hnd => decide +kernel
  intro g L h₁ mean mg mb tk cells F N Y lS X₁ T₁ En C' K
  k_cells Y
  (try simp only [List.cons_append, List.nil_append] at N)
  have lS1 := NqL.of_add lS 1
  have lS2 := NqL.of_add lS 2
  dsimp only [List.map] at lS1 lS2
  k_lt lS
  rename_i o1 o2 d1 d2
  replace d1 : o1.data = .cell (some (.int n tn)) := d1
  replace d2 : o2.data = .cell (some (.int v tv)) := d2
  replace F : Fr g L h₁ (fun _ => none) := F
  k_extra "k_steps"
  refine' comp_enter ?zcl ?zk ?zn ?_
  case zcl => exact rfl
  case zk => exact rfl
  case zn => decide +kernel
  k_extra "k_steps"
  rename IsRange _ _ _ _ _ _ _ _ => mR; rename Fr _ _ _ _ => F5; rename News _ _ _ _ => N5
  refine' comp_range (fun i vals news => news = [(L + 1 + 1, o1), (L + 1, o2)] ∧ IntsAre vals ((fig v n).take i)) (by rfl) (by decide +kernel) (by rfl) (by rfl) mR (rsmall (by (first | lia | omega))) (rsize n) (by (first | lia | omega)) F5 N5 ⟨rfl, .nil⟩ ?turn ?done
  case turn =>
    rintro I Cc D oL oI i t vals kD mc news h tk hi ⟨rfl, hv9⟩ hl F6 N6 a1 a2 a3 a4 a5 a6 a7
    k_extra "k_steps"
    all_goals first | (show wpAny _ _ _ _ _ _; skip) | (show CEnd _ _ _ _ _ _ _ _ _ _ _ _ _; skip) | exact (0 : Nat) | exact Value.none | exact ([] : List (Str × Addr)) | exact Str.ofString "" | skip
    exact ⟨_, _, _, _, rfl, by assumption, by assumption, a5, a6, a7, rfl, by rw [fig_take hi]; exact ints_snoc hv9 _ _⟩
  case done =>
    rintro D h tk vals kD news hl ⟨rfl, hv9⟩ F6 N6 a1
    k_extra "k_steps"
    rw [List.take_of_length_le (by rw [fig_length]; exact Nat.le_refl _)] at hv9
    exact ret _ _ _ _ _ hv9 hl (by k_extra "m step")
end
end

theorem words_of_La : True := by
  k_with "binaryOp Add ref ref" => ((k_here; k_dflt (refine' lst_add (by k_asm) (by k_asm) (by k_mem) (by k_mem) (by (first | lia | omega)) ?_); intro kzD kzh kzF kzN kz1; (try k_lt kz1); (try k_sweep)))
  k_with "eval ListComp" => ((show wpAny _ _ _ _ _ _; refine stop ?_))
  k_with "m junk" => (all_goals first | (show wpAny _ _ _ _ _ _; skip) | (show CEnd _ _ _ _ _ _ _ _ _ _ _ _ _; skip) | exact (0 : Nat) | exact Value.none | exact ([] : List (Str × Addr)) | exact Str.ofString "" | skip)
  k_with "codeAny" => (((with_reducible show codeAny _ _ (Code.call (Value.ref 615) _) _ _); k_dflt (refine' lfig (by assumption) (by k_extra "m stay") (by k_extra "m room") (by k_extra "m room") (by first | assumption | omega) (by first | assumption | omega) (by k_extra "m own") ?_); intros; k_extra "m upS"))
  exact trivial
section
theorem fmod_nat (a : Int) {m : Int} (hm : 0 < m) : ∃ v : Nat, a.fmod m = (v : Int) ∧ (v : Int) < m := by
  rw [Int.fmod_eq_emod_of_nonneg _ (by (first | lia | omega))]
  have h0 := Int.emod_nonneg a (show m ≠ 0 by (first | lia | omega))
  have h1 := Int.emod_lt_of_pos a (show (0 : Int) < m by (first | lia | omega))
  exact ⟨(a % m).toNat, by (first | lia | omega), by (first | lia | omega)⟩
section
variable {w : World} {dp un : Nat} {fr : Option (List Env)} {gd : Option (List Code)} {h₀ : Heap} {s : Shared} {R : Result → Shared → Prop}
theorem sip (C : Stc w h₀) (k : h₀.StaysIn s.heap) {X : Addr}
  {jug : Addr} {x y many : Int} {t1 t2 tm : Tok} {n : Nat} (hd : dp + 1 < recursionLimit) (hu : un + 8 < cLine) (O : News h₀ X s.heap ([(jug, listOf #[.int x t1, .int y t2] n)])) (hm : 0 < many) (hm2 : many < 1000)
  (ret : ∀ (v : Nat) (x' y' : Int) (t t1' t2' : Tok) (n' : Nat) (h' : Heap) (tk' : Nat), (v : Int) < many → Step X s.heap h' ([(jug, listOf #[.int x t1, .int y t2] n)]) ([(jug, listOf #[.int x' t1', .int y' t2'] n')]) → R (.ok (.ret (.int (v : Nat) t))) { s with heap := h', toks := tk' }) :
  codeAny (model pw w) (ar dp fr gd un) (.call (.ref 600) ⟨[.ref jug, .int many tm], []⟩) R s := by
  refine' begin ([(jug, listOf #[.int x t1, .int y t2] n)]) [(Str.ofString "jug", .ref jug), (Str.ofString "many", .int many tm)] (st := stm 39) C k (News.ent O) ?ho ?he ?hcd ?hroom ?hbind ?hsc ?_
  case ho => k_is
  case he => exact rfl
  case hcd => k_is
  case hroom => exact lt_of_add hd
  case hbind => exact rfl
  case hsc => exact rfl
  have hm3 : (many : Int) ≠ 0 := by (first | lia | omega)
  intro g L h₁ mean mg mb tk F N X₁ T₁ En C' K
  k_extra "k_steps"
  · obtain ⟨v, hv, hv2⟩ := fmod_nat x hm
    rw [hv]
    exact ret v _ _ _ _ _ _ _ _ hv2 (by k_extra "m step")
  · obtain ⟨v, hv, hv2⟩ := fmod_nat (Int.fdiv (Int.fmod (y * 48271 + 23) 2147483647) 128) hm
    rw [hv]
    exact ret v _ _ _ _ _ _ _ _ hv2 (by k_extra "m step")
end
end

theorem words_of_Lb : True := by
  k_with "m offs" => ((dsimp only [envOfC, Off]; k_extra "m off"))
  k_with "codeAny" => (((with_reducible show codeAny _ _ (Code.call (Value.ref 600) _) _ _); k_dflt (refine' sip (by assumption) (by k_extra "m stay") (by k_extra "m room") (by k_extra "m room") (by k_extra "m own") (by first | assumption | omega | decide) (by first | assumption | omega | decide) ?_); intros; k_extra "m upS"))
  exact trivial
section
theorem row_bound {ns : List Int} {v : Nat} {c : Prop} [Decidable c] (h : ∀ k ∈ ns, k.natAbs ≤ 31) (hv : (v : Int) < 63) : ∀ k ∈ ns ++ [((v : Int) - 31) * if c then 1 else 0], k.natAbs ≤ 31 := fun k hk => by
  rcases List.mem_append.mp hk with hk | hk
  · exact h k hk
  · rw [List.mem_singleton.mp hk]; split <;> (first | lia | omega)
theorem ints_four {vs : List Value} {ns : List Int} (h : IntsAre vs ns) (hl : vs.length = 4) : E8c2 (fun r0 r1 r2 r3 v0 v1 v2 v3 => vs = [.int r0 v0, .int r1 v1, .int r2 v2, .int r3 v3]) (fun r0 r1 r2 r3 (v0 v1 v2 v3 : Tok) => ns = [r0, r1, r2, r3]) := by
  cases h with
  | nil => cases hl
  | cons a t0 h => cases h with
    | nil => cases hl
    | cons b t1 h => cases h with
      | nil => cases hl
      | cons c t2 h => cases h with
        | nil => cases hl
        | cons d t3 h => cases h with
          | nil => exact ⟨_, _, _, _, _, _, _, _, rfl, rfl⟩
          | cons e t4 h => simp at hl
section
variable {w : World} {dp un : Nat} {fr : Option (List Env)} {gd : Option (List Code)} {h₀ : Heap} {s : Shared} {R : Result → Shared → Prop}
theorem lrow (C : Stc w h₀) (k : h₀.StaysIn s.heap) {X : Addr}
  {jug : Addr} {x y : Int} {t1 t2 : Tok} {n : Nat} (hd : dp + 6 < recursionLimit) (hu : un + 60 < cLine) (O : News h₀ X s.heap ([(jug, listOf #[.int x t1, .int y t2] n)]))
  (ret : ∀ D (r0 r1 r2 r3 : Int) v0 v1 v2 v3 n1 (x' y' : Int) (t1' t2' : Tok) (n' : Nat) (h' : Heap) (tk' : Nat), r0.natAbs ≤ 31 → r1.natAbs ≤ 31 → r2.natAbs ≤ 31 → r3.natAbs ≤ 31 → Step X s.heap h' ([(jug, listOf #[.int x t1, .int y t2] n)]) ([(jug, listOf #[.int x' t1', .int y' t2'] n'), (D, listOf #[.int r0 v0, .int r1 v1, .int r2 v2, .int r3 v3] n1)]) → R (.ok (.ret (.ref D))) { s with heap := h', toks := tk' }) :
  codeAny (model pw w) (ar dp fr gd un) (.call (.ref 641) ⟨[.ref jug], []⟩) R s := by
  refine' beginX ([(jug, listOf #[.int x t1, .int y t2] n)]) [(Str.ofString "jug", .ref jug)] (st := stm 46) C k (News.ent O) ?ho ?he ?hcd ?hroom ?hbind ?hsc ?hnd ?_
  case ho => k_is
  case he => exact rfl
  case hcd => k_is
  case hroom => exact lt_of_add hd
  case hbind => exact rfl
  case hsc => exact rfl
  case hnd => decide +kernel
  intro g L h₁ mean mg mb tk cells F N Y lS X₁ T₁ En C' K
  k_cells Y
  (try simp only [List.cons_append, List.nil_append] at N)
  have lS1 := NqL.of_add lS 1
  have lS2 := NqL.of_add lS 2
  dsimp only [List.map] at lS1 lS2
  k_lt lS
  rename_i o1 d1
  replace d1 : o1.data = .cell (some (.ref jug)) := d1
  replace F : Fr g L h₁ (fun _ => none) := F
  k_extra "k_steps"
  refine' comp_enter ?zcl ?zk ?zn ?_
  case zcl => exact rfl
  case zk => exact rfl
  case zn => decide +kernel
  k_extra "k_steps"
  rename IsRange _ _ _ _ _ _ _ _ => mR; rename Fr _ _ _ _ => F5; rename News _ _ _ _ => N5
  refine' comp_range (n := 4) (fun i vals news => E5c2 (fun x' y' t1' t2' n' => news = [(L + 1, o1), (jug, listOf #[.int x' t1', .int y' t2'] n')]) (fun x' y' t1' t2' n' => ∃ ns, IntsAre vals ns ∧ ∀ k ∈ ns, k.natAbs ≤ 31)) (by rfl) (by decide +kernel) (by rfl) (by rfl) mR (by decide) (by rfl) (by (first | lia | omega)) F5 N5 ⟨_, _, _, _, _, rfl, [], .nil, fun _ h => nomatch h⟩ ?turn ?done
  case turn =>
    rintro I Cc D oL oI i t vals kD mc news h tk hi ⟨x', y', t1', t2', n', rfl, ns, hv9, hns⟩ hl F6 N6 a1 a2 a3 a4 a5 a6 a7
    replace a5 := NqL.of_off a5
    replace a6 := NqL.of_off a6
    replace a7 := NqL.of_off a7
    dsimp only [List.map, envOfC] at F6 N6 a1 a2 a4 a5 a6 a7
    k_extra "k_steps"
    k_extra "m junk"
    all_goals exact ⟨_, _, _, _, rfl, by assumption, News.sub (by assumption) (by k_extra "m sb"), by k_extra "m offs", by k_extra "m offs", by k_extra "m offs", _, _, _, _, _, rfl, _, ints_snoc hv9 _ _, row_bound hns (by assumption)⟩
  case done =>
    rintro D h tk vals kD news hl ⟨x', y', t1', t2', n', rfl, ns, hv9, hns⟩ F6 N6 a1
    replace a1 := NqL.of_off a1
    dsimp only [List.map] at a1
    obtain ⟨r0, r1, r2, r3, v0, v1, v2, v3, rfl, rfl⟩ := ints_four hv9 hl
    k_extra "k_steps"
    exact ret _ r0 r1 r2 r3 v0 v1 v2 v3 _ _ _ _ _ _ _ _ (hns _ (by simp)) (hns _ (by simp)) (hns _ (by simp)) (hns _ (by simp)) (by k_extra "m step")
end
end

theorem words_of_Lc : True := by
  k_with "codeAny" => (((with_reducible show codeAny _ _ (Code.call (Value.ref 641) _) _ _); k_dflt (refine' lrow (by assumption) (by k_extra "m stay") (by k_extra "m room") (by k_extra "m room") (by k_extra "m own") ?_); intros; k_extra "m upS"))
  exact trivial
section
namespace G_Ld
theorem in_Ld : True := trivial
end G_Ld
open G_Ld
theorem ints_app {a b : List Value} {ns ms : List Int} (h : IntsAre a ns) (h2 : IntsAre b ms) : IntsAre (a ++ b) (ns ++ ms) := by
  induction h with
  | nil => exact h2
  | cons i u _ ih => exact .cons i u ih
inductive LstV (h : Heap) (xs : List (List Int × Addr × Value)) (ls : Int → Int → List Int × Nat) (a b : Int) : Prop
  | mk (ka tu sl : Addr) (vs : List Value) (t : Tok) (n n2 : Nat) (e1 : atKey xs [a, b] = some (ka, .ref tu)) (e2 : h.get? tu = some (tupOf [.ref sl, .int ((ls a b).2 : Int) t] n)) (e3 : h.get? sl = some (listOf vs.toArray n2)) (e4 : IntsAre vs (ls a b).1) : LstV h xs ls a b
/-- the law's lists -/
def Lsts (w : World) (h : Heap) (LD : Addr) (ls : Int → Int → List Int × Nat) : Prop := ∃ xs, h.DictOfH (tupleKind (intKind pw w)) LD xs ∧ ∀ a b, (a = 0 ∨ a = 1) → (b = 0 ∨ b = 1) → LstV h xs ls a b
theorem Lsts.keeps {w : World} {h h' : Heap} {LD : Addr} {ls : Int → Int → List Int × Nat} (x : Lsts w h LD ls) (k : h.StaysIn h') : Lsts w h' LD ls := by
  obtain ⟨xs, D, r⟩ := x
  refine ⟨xs, DictOfH.keeps D k, fun a b ha hb => ?_⟩
  obtain ⟨ka, tu, sl, vs, t, n, n2, e1, e2, e3, e4⟩ := r a b ha hb
  exact ⟨ka, tu, sl, vs, t, n, n2, e1, k _ _ e2, k _ _ e3, e4⟩
theorem lst_methodB {prog : Program} {w : World} {A : Around} {E : Value → Shared → Prop} {s : Shared} {g : Heap} {L l : Addr} {m : Str → Option Value} {vs : List Value} {n : Nat} {pl : Sem Bool} {Q : Value × List Value → Shared → Prop} (F : Fr g L s.heap m) (e : g.get? l = some (listOf vs.toArray n)) (h : Q (.builtin "list.index", [.ref l]) s) :
    wpAny (model prog w) A (getMethod (.ref l) "index" pl) Q E s :=
  getMethod_builtin (lst_base F e).typeIs PySem.F.plainAttrs_list PySem.F.slot_list_index PySem.F.type_list_index (fun a q => by cases q; exact ⟨_, F.keep _ _ e, rfl⟩) h
theorem line_41 : True := by
  k_with "getMethod ref" => (guard_expr in_Ld =~ in_Ld; (k_here; (with_reducible show wpAny _ _ (getMethod _ (Str.ofString "index") _) _ _ _); k_dflt (refine' lst_methodB (by k_asm) (by assumption) ?_)))
  exact trivial
theorem line_42 : True := by
  k_with "call builtin:list.index" => (guard_expr in_Ld =~ in_Ld; (k_here; k_dflt (refine' index_list_ints (by exact lst_base (by k_asm) (by assumption)) (by assumption) (by assumption) (by assumption) ?_)))
  exact trivial
section
variable {w : World} {dp un : Nat} {fr : Option (List Env)} {gd : Option (List Code)} {h₀ : Heap} {s : Shared} {R : Result → Shared → Prop}
theorem lcoded (C : Stc w h₀) (k : h₀.StaysIn s.heap) {X : Addr}
  {LD key : Addr} {ls : Int → Int → List Int × Nat} {ka kb run v : Int} {ta tb tr tv : Tok} {nk : Nat} (hd : dp + 6 < recursionLimit) (hu : un + 80 < cLine) (O : News h₀ X s.heap ([])) (H : Lsts w h₀ LD ls) (V : Cover ls) (hkk : s.heap.get? key = some (tupOf [.int ka ta, .int kb tb] nk)) (ha : ka = 0 ∨ ka = 1) (hb2 : kb = 0 ∨ kb = 1) (hrun : 0 ≤ run ∧ run ≤ 15) (hv : v.natAbs ≤ 31) (hmem : (16 * run + sz v : Int) ∈ (ls ka kb).1)
  (ret : ∀ D vals n1 (h' : Heap) (tk' : Nat), IntsAre vals (cod ls ka kb run v) → vals.length ≤ 20 → Step X s.heap h' ([]) ([(D, listOf (List.toArray vals) n1)]) → R (.ok (.ret (.ref D))) { s with heap := h', toks := tk' }) :
  codeAny (model pw w) (ar dp fr gd un) (.call (.ref 622) ⟨[.ref LD, .ref key, .int run tr, .int v tv], []⟩) R s := by
  refine' begin ([]) [(Str.ofString "lists", .ref LD), (Str.ofString "key", .ref key), (Str.ofString "run", .int run tr), (Str.ofString "value", .int v tv)] (st := stm 43) C k (News.ent O) ?ho ?he ?hcd ?hroom ?hbind ?hsc ?_
  case ho => k_is
  case he => exact rfl
  case hcd => k_is
  case hroom => exact lt_of_add hd
  case hbind => exact rfl
  case hsc => exact rfl
  obtain ⟨xs, D, rT⟩ := id H
  obtain ⟨kka, tu, sl, vs, tl, nt, nl, eT, eu, es, hints⟩ := rT ka kb ha hb2
  have hs5 : sz v ≤ 5 := sz_le_iff.mpr (by (first | lia | omega))
  have hln := V.len ka kb
  have hlsy := V.lay ka kb
  intro g L h₁ mean mg mb tk F N X₁ T₁ En C' K
  have ek := En.ro (a := key) NqL.nil hkk
  have e1 := DictOfH.keeps D K
  have e2 := K _ _ eu
  have e3 := K _ _ es
  k_extra "k_steps"
  refine' while_inv (fun n m news => E2c4 (fun (k : Nat) (tK : Tok) => n = 5 - k) (fun (k : Nat) (tK : Tok) => m = (fun y => if y = Str.ofString "size" then some (.int (k : Nat) tK) else List.lookup y [(Str.ofString "lists", .ref LD), (Str.ofString "key", .ref key), (Str.ofString "run", .int run tr), (Str.ofString "value", .int v tv)].reverse)) (fun (k : Nat) (tK : Tok) => news = []) (fun (k : Nat) (tK : Tok) => k ≤ sz v)) PassesOwn.never ?turn ⟨0, _, rfl, by k_extra "m map", rfl, Nat.zero_le _⟩ (by assumption) (by assumption)
  case turn =>
    rintro n m news h tk ⟨k, tK, rfl, rfl, rfl, hk⟩ F₁ N₁
    have p2k := p2n k
    have hkz := sz_le_iff (m := k) (v := v)
    have p2k' : ((2 ^ k : Nat) : Int) = 2 ^ Int.toNat (k : Int) := p2n k
    rcases Nat.lt_or_ge v.natAbs (2 ^ k) with hlt | hge
    · obtain rfl : k = sz v := by have := hkz.mpr hlt; (first | lia | omega)
      have hval : (if v > 0 then v else v + 2 ^ sz v - 1) = bo v := by
        unfold bo
        by_cases h1 : v < 0
        · rw [if_neg (by (first | lia | omega)), if_pos h1]
        · rw [if_neg h1]
          by_cases h2 : v > 0
          · rw [if_pos h2]
          · have h3 : v = 0 := by (first | lia | omega)
            subst h3; rfl
      have hbo := (bo_range v)
      have hbb : (bo v).natAbs ≤ 1000000 := by
        have e : (2 : Int) ^ sz v ≤ 2 ^ 5 := p2_le hs5
        have e2 : (2 : Int) ^ 5 = 32 := rfl
        (first | lia | omega)
      have hix : ((((ls ka kb).1.idxOf (16 * run + sz v) : Nat)) : Int).natAbs ≤ 2000000 := by
        have q1 := len_ints_list hlsy
        have q2 := List.idxOf_le_length (a := (16 * run + sz v : Int)) (l := (ls ka kb).1)
        (first | lia | omega)
      k_extra "k_steps"
      · have e : v = bo v := by rw [← hval, if_pos (by assumption)]
        rename IntsAre _ (fig v (sz v)) => i2
        rename IntsAre _ (fig _ (ls ka kb).2) => i1
        have i3 := ints_app i1 (ia_eq i2 (congrArg (fun a => fig a (sz v)) e))
        exact ret _ _ _ _ _ i3 (by rw [List.length_append]; (first | lia | omega)) (by k_extra "m step")
      · have e : v + 2 ^ Int.toNat (sz v : Int) - 1 = bo v := by rw [← hval, if_neg (by assumption)]; rfl
        rename IntsAre _ (fig (v + _ - 1) (sz v)) => i2
        rename IntsAre _ (fig _ (ls ka kb).2) => i1
        rw [e] at i2
        exact ret _ _ _ _ _ (ints_app i1 i2) (by rw [List.length_append]; (first | lia | omega)) (by k_extra "m step")
    · k_extra "k_steps"
      refine TEnd.nextW (by assumption) (by assumption) ⟨5 - (k + 1), (by have := hkz.mp; (first | lia | omega)), k + 1, _, rfl, (by k_extra "m map"), rfl, (by have := hkz.mp; (first | lia | omega))⟩
end
end

theorem words_of_Ld : True := by
  k_with "getMethod ref" => ((k_here; (with_reducible show wpAny _ _ (getMethod _ (Str.ofString "index") _) _ _ _); k_dflt (refine' lst_methodB (by k_asm) (by assumption) ?_)))
  k_with "call builtin:list.index" => ((k_here; k_dflt (refine' index_list_ints (by exact lst_base (by k_asm) (by assumption)) (by assumption) (by assumption) (by assumption) ?_)))
  k_with "codeAny" => (((with_reducible show codeAny _ _ (Code.call (Value.ref 622) _) _ _); k_dflt (refine' lcoded (by assumption) (by k_extra "m stay") (by k_extra "m room") (by k_extra "m room") (by k_extra "m own") (by assumption) (by assumption) (by k_extra "m rd") (by first | assumption | omega) (by first | assumption | omega) (by first | assumption | omega) (by first | assumption | omega) (by assumption) ?_); intros; k_extra "m upS"))
  exact trivial
section
namespace G_Lf
theorem in_Lf : True := trivial
end G_Lf
open G_Lf
section
variable {prog : Program} {w : World} {A : Around} {E : Value → Shared → Prop} {s : Shared} {env : Env} {g : Heap} {x : Str} {target : Expr} {body : List Stmt} {Q : Flow → Shared → Prop}
theorem for_rangeS {r : Addr} {a₀ b₀ c : Int} {t₀ u₀ v₀ : Tok} {n : Nat} {m₀ : Str → Option Value} {news : List (Addr × Obj)} (J : Nat → (Str → Option Value) → List (Addr × Obj) → Prop)
    (hh : A.handled = none) (hr : IsRange s.heap r a₀ b₀ c t₀ u₀ v₀) (hsmall : Builtin.Range.small a₀ b₀ c = true) (hn : Builtin.Range.rangeSize a₀ b₀ c = (n : Int)) (F : Fr g env.locals s.heap m₀) (N : News g env.locals s.heap news) (h0 : J 0 m₀ news)
    (turn : ∀ I i t m₁ news₁ h tk o, (∀ p ∈ news, p.1 < I) → i < n → J i m₁ news₁ → (∀ p ∈ news₁, p.1 ≠ I) → Fr g env.locals h (fun y => if y = x then some (.int (a₀ + (i : Nat) * c) t) else m₁ y) → News g env.locals h ((I, o) :: news₁) →
      wpAny (model prog w) A (execs body env) (TEnd g env.locals I [(I, o)] (J (i + 1)) { s with heap := h, toks := tk } Q) E { s with heap := h, toks := tk })
    (done : ∀ m' news' h tk, J n m' news' → Fr g env.locals h m' → News g env.locals h news' → Q .next { s with heap := h, toks := tk }) :
    wpAny (model prog w) A (pyIter (.ref r)) (fun it s₂ => LoopAtV prog w A g env x body Q E it s₂) E s := by
  refine wpAny_pyIter_range hr hsmall ?_
  have W : Walks prog w A s.heap.objs.size [s.heap.objs.size] [s.heap.objs.size] n (fun i v => i < n ∧ ∃ t, v = .int (a₀ + i * c) t)
      (fun i h => IsRangeIter h s.heap.objs.size (a₀ + (i : Nat) * c) ((n : Int) - (i : Nat)) c) := (Walks.range hh _ a₀ c n).bound
  refine mk9 (a0 := s.heap.objs.size) (a1 := [s.heap.objs.size]) (a2 := [s.heap.objs.size]) (a3 := n) (a6 := m₀) (a7 := news) (a8 := J) ⟨rfl, W, ?_, ?_, ?_, ?_, F.push _, (fun p hp => ⟨Heap.get?_push_of_some _ (N p hp).1, (N p hp).2⟩), h0, ?_, ?_⟩
  · intro hm; exact absurd F.ns.lt ((List.mem_singleton.mp hm) ▸ Nat.lt_irrefl _)
  · intro b hb; rw [List.mem_singleton.mp hb]; exact next_is_new F
  · intro p hp hI; exact absurd (Heap.lt_size (N p hp).1) ((List.mem_singleton.mp hI) ▸ Nat.lt_irrefl _)
  · show IsRangeIter _ _ _ _ _; rw [hn]; simpa using Heap.get?_push_size _ rfl
  · rintro i v m₁ news₁ s₁ own ⟨hh', tk', rfl⟩ hin ⟨_, t, rfl⟩ hJ hoff hown _ hall hst F₁ N₁
    have hob : ∃ o, hh'.get? s.heap.objs.size = some o := ⟨_, hst⟩
    obtain ⟨o, ho⟩ := hob
    have hio : (s.heap.objs.size, o) ∈ own := hall _ (List.mem_singleton.mpr rfl) (next_is_new F) _ ho
    have hone := own_one hown (fun b hb => .inl (List.mem_singleton.mp hb)) ho N₁
    refine wpAny_mono (turn s.heap.objs.size i t m₁ news₁ hh' tk' o (fun p hp => Heap.lt_size (N p hp).1) hin hJ (fun p hp e => hoff p hp (by rw [e]; exact List.mem_singleton.mpr rfl)) F₁ (news_one hio N₁)) (fun f s₂ p => ?_) fun _ _ e => e
    have fin : (∃ h' tk m' news', s₂ = { ({ s with heap := hh', toks := tk' } : Shared) with heap := h', toks := tk } ∧ Fr g env.locals h' m' ∧ News g env.locals h' ([(s.heap.objs.size, o)] ++ news') ∧ (∀ p ∈ news', p.1 ≠ s.heap.objs.size) ∧ J (i + 1) m' news') → LoopStepU g env.locals [s.heap.objs.size] own (J (i + 1)) { s with heap := hh', toks := tk' } .next s₂ := by
      rintro ⟨h', tk, m', news', e, F', N', hoff', hm⟩
      refine ⟨rfl, h', tk, m', news', e, F', fun p hp => ?_, fun p hp hq => hoff' p hp (List.mem_singleton.mp hq), hm⟩
      rcases List.mem_append.mp hp with hp | hp
      · exact N' p (List.mem_append_left _ (by rw [hone p hp]; exact List.mem_singleton.mpr rfl))
      · exact N' p (List.mem_append_right _ hp)
    cases f with
    | ret v => exact .ret p
    | brk => exact .brk p
    | next => exact .next (fin p)
    | cont => exact .cont (fin p)
  · rintro h' tk m' news' F' N' _ hJ
    exact done m' news' h' tk hJ F' N'

end
theorem oct_range (m : Nat) : Builtin.Range.rangeSize 0 ((8 * m : Nat) : Int) 8 = (m : Int) := by
  unfold Builtin.Range.rangeSize
  rw [if_pos (by decide)]
  split <;> (first | lia | omega)
theorem oct_small (m : Nat) (hm : m < 1000000) : Builtin.Range.small 0 ((8 * m : Nat) : Int) 8 = true := by
  have hb : (0 : Int) ≤ ((8 * m : Nat) : Int) ∧ ((8 * m : Nat) : Int) < 8000000 := by (first | lia | omega)
  have hm2 : 0 ≤ (m : Int) ∧ (m : Int) < 1000000 := by (first | lia | omega)
  unfold Builtin.Range.small
  rw [oct_range]
  generalize ((8 * m : Nat) : Int) = b at *
  generalize (m : Int) = q at *
  simp only [Builtin.Range.rangeFitsLong, Bool.and_eq_true, Bool.or_eq_true, decide_eq_true_eq, beq_iff_eq, show (8 : Int) > 0 by decide, if_true]
  (first | lia | omega)
theorem neg8 (n : Nat) : (-(n : Int)).fmod 8 = (((8 - n % 8) % 8 : Nat) : Int) := by
  rw [Int.fmod_eq_emod_of_nonneg _ (by decide)]; (first | lia | omega)
theorem neg8_as {prog : Program} {w : World} {A : Around} {E : Value → Shared → Prop} {s : Shared} {n : Nat} {t u : Tok} {Q : Value → Shared → Prop} (h : Q (.int (((8 - n % 8) % 8 : Nat) : Int) s.toks) { s with toks := s.toks + 1 }) : wpAny (model prog w) A (binaryOp .Mod (.int (-(n : Int)) t) (.int 8 u)) Q E s :=
  mod_int' (by decide) (by rw [neg8]; exact h)
theorem line_43 : True := by
  k_with "binaryOp Mod int int" => (guard_expr in_Lf =~ in_Lf; (k_here; k_dflt (refine neg8_as ?_)))
  exact trivial
theorem lst_append {prog : Program} {w : World} {A : Around} {E : Value → Shared → Prop} {g h : Heap} {gs : Array GenState} {dr : Drawn} {tk : Nat} {os : OsState} {L a : Addr} {m : Str → Option Value} {news : List (Addr × Obj)} {vs : List Value} {x : Value} {k : Nat} {gg : Obj → List (Addr × Obj)} {Q : Value → Shared → Prop}
    (F : Fr g L h m) (N : News g L h news) (U : UpdF a (listOf vs.toArray k) news gg) (hz : vs.length ≤ 1000000) (hq : ∀ h', Fr g L h' m → News g L h' (gg (listOf (vs ++ [x]).toArray (k + 1))) → Q .none ⟨h', gs, dr, tk, os⟩) :
    wpAny (model prog w) A (call (.builtin "list.append") [.ref a, x]) Q E ⟨h, gs, dr, tk, os⟩ := by
  obtain ⟨p, q, e, _, _, _⟩ := U.split
  have ha := (N (a, listOf vs.toArray k) (by rw [e]; simp)).1
  refine append_at (s := ⟨h, gs, dr, tk, os⟩) ha (fun h' hs ho' => ?_) (by rw [List.size_toArray, sizeLine_eq]; (first | lia | omega))
  have kp : Keep [a] h h' := fun b o hb e => (hs.2 b (fun q => hb (by rw [q]; exact .head _))).trans e
  obtain ⟨F', N'⟩ := upd1 F N U kp (o' := listOf (vs ++ [x]).toArray (k + 1)) (by rw [← listOf_push]; exact ho')
  exact hq h' F' N'
theorem lst_slice {prog : Program} {w : World} {A : Around} {E : Value → Shared → Prop} {h₀ h : Heap} {gs : Array GenState} {dr : Drawn} {tk : Nat} {os : OsState} {L l : Addr} {m : Str → Option Value} {news : List (Addr × Obj)} {value slice : Expr} {vs : List Value} {ns : List Int} {n : Nat} {a b : Int} {u v : Tok} {Q : Value → Shared → Prop}
    (F : Fr h₀ L h m) (N : News h₀ L h news) (hm : (l, listOf vs.toArray n) ∈ news) (hi : IntsAre vs ns) (ha : 0 ≤ a) (hb : 0 ≤ b) (hz : vs.length ≤ 1000000)
    (hq : ∀ D ws h', Fr h₀ L h' m → News h₀ L h' ((D, listOf (List.toArray ws) 0) :: news) → (∀ p ∈ news, p.1 < D) → IntsAre ws ((ns.drop a.toNat).take (min b.toNat ns.length - a.toNat)) → Q (.ref D) ⟨h', gs, dr, tk, os⟩)
    (hs : subscripted slice false (.ref l) (.ref h.objs.size) = operate [.ref h.objs.size, .ref l] (getItem (.ref l) (.ref h.objs.size)) := by with_unfolding_all rfl) (ht : ∀ r, letTemporaryGo value (.ref l) r = pure () := by intro _; with_unfolding_all rfl) :
    wpAny (model prog w) A (subscriptTail value slice (.ref l) (.ref h.objs.size)) Q E ⟨h.push { cls := .type "slice", data := .fields #[.int a u, .int b v, .none] }, gs, dr, tk, os⟩ :=
  kmk_slice_lit (s := ⟨h, gs, dr, tk, os⟩) F N (News.isList N hm) (.int _ _) (.int _ _) rfl (fun D h' F' N' l => hq D _ h' F' N' l (kmk_run hi ha hb)) hs ht (by rw [List.size_toArray, sizeLine_eq]; (first | lia | omega))
theorem line_44 : True := by
  k_with "call builtin:list.append" => (guard_expr in_Lf =~ in_Lf; (k_here; k_dflt (refine' lst_append (by k_asm) (by k_asm) (by k_updF) (by (first | lia | omega)) ?_); intro kzh kzF kzN; (try dsimp only at kzN); (try k_sweep)))
  exact trivial
theorem line_45 : True := by
  k_with "subscriptTail Name Slice ref ref" => (guard_expr in_Lf =~ in_Lf; (k_here; k_dflt (refine' lst_slice (by k_asm) (by k_asm) (by k_mem) (by assumption) (by (first | lia | omega)) (by (first | lia | omega)) (by (first | lia | omega)) ?_); intro kzD kzw kzh kzF kzN kz1 kzI; (try k_lt kz1); (try k_sweep)))
  exact trivial
theorem line_46 : True := by
  k_with "call type:bytes" => (guard_expr in_Lf =~ in_Lf; (k_here; k_dflt (refine' bytes_K (by k_asm) (by k_asm) (by exact News.isList (by k_asm) (by k_mem)) (by assumption) (by assumption) (by assumption) (by with_unfolding_all rfl) ?_); intro kzh kzv kzk kzF kzN kzB; (try k_sweep)))
  exact trivial
theorem padded_01 {B : List Int} (h : ∀ c ∈ B, c = 0 ∨ c = 1) : ∀ c ∈ padded B, c = 0 ∨ c = 1 := fun c hc => by
  rcases List.mem_append.mp hc with q | q
  · exact h c q
  · exact .inr (List.eq_of_mem_replicate q)
theorem padded_len (B : List Int) : ∃ m, (padded B).length = 8 * m ∧ 8 * m ≤ B.length + 7 := by
  refine ⟨(padded B).length / 8, ?_, ?_⟩ <;> · simp only [padded, List.length_append, List.length_replicate]; (first | lia | omega)
theorem len_listN {prog : Program} {w : World} {A : Around} {E : Value → Shared → Prop} {s : Shared} {g : Heap} {L : Addr} {news : List (Addr × Obj)} {t : Addr} {vs : List Value} {n k : Nat} {Q : Value → Shared → Prop} (N : News g L s.heap news) (hm : (t, listOf vs.toArray n) ∈ news) (hl : vs.length = k) (hk : k < 1000000) (h : ∀ u tk, Q (.int (k : Int) u) { s with toks := tk }) :
    wpAny (model prog w) A (call (.builtin "len") [.ref t]) Q E s :=
  Calls.call_len_list (News.isList N hm) (by simp; (first | lia | omega)) (by have := h (s.toks + 1) (s.toks + 1 + 1); simpa [hl] using this)
theorem line_47 : True := by
  k_with "call builtin:len" => (guard_expr in_Lf =~ in_Lf; (k_here; k_dflt (refine' len_listN (by k_asm) (by k_mem) (by assumption) (by (first | lia | omega)) ?_); intro kzu kzt))
  exact trivial
theorem seg_len {i mm n : Nat} (hn : n = 8 * mm) (hi : i < mm) : min (Int.toNat (((8 * i : Nat) : Int) + 8)) n - 8 * i = 8 := by
  rw [show Int.toNat (((8 * i : Nat) : Int) + 8) = 8 * i + 8 from rfl, Nat.min_eq_left (by (first | lia | omega)), Nat.add_sub_cancel_left]
section
variable {w : World} {dp un : Nat} {fr : Option (List Env)} {gd : Option (List Code)} {h₀ : Heap} {s : Shared} {R : Result → Shared → Prop}
theorem loctets (C : Stc w h₀) (k : h₀.StaysIn s.heap) {X : Addr}
  {fl : Addr} {vals : List Value} {B : List Int} {n : Nat} (hd : dp + 6 < recursionLimit) (hu : un + 80 < cLine) (O : News h₀ X s.heap ([(fl, listOf (List.toArray vals) n)])) (hB : IntsAre vals B) (h01 : ∀ c ∈ B, c = 0 ∨ c = 1) (hl : B.length ≤ 50000)
  (ret : ∀ F' tb (h' : Heap) (tk' : Nat), Oct F' → octs F' = padded B → Step X s.heap h' ([(fl, listOf (List.toArray vals) n)]) ([(fl, listOf (List.toArray vals) n)]) → R (.ok (.ret (.bytes (byteArr F') tb))) { s with heap := h', toks := tk' }) :
  codeAny (model pw w) (ar dp fr gd un) (.call (.ref 636) ⟨[.ref fl], []⟩) R s := by
  refine' begin ([(fl, listOf (List.toArray vals) n)]) [(Str.ofString "figures", .ref fl)] (st := stm 45) C k (News.ent O) ?ho ?he ?hcd ?hroom ?hbind ?hsc ?_
  case ho => k_is
  case he => exact rfl
  case hcd => k_is
  case hroom => exact lt_of_add hd
  case hbind => exact rfl
  case hsc => exact rfl
  have hlv : vals.length = B.length := hB.length
  intro g L h₁ mean mg mb tk F N X₁ T₁ En C' K
  obtain ⟨mm, hmm, hmm2⟩ := padded_len B
  k_extra "k_steps"
  rename_i _ _ _ _ _ _ PD ws _ hI _ _ _ fd _ _ _ F5 N5
  have hI2 : IntsAre ws (padded B) := ia_eq hI (by rw [padded]; congr 1; simp; rfl)
  have hlw : ws.length = 8 * mm := by rw [hI2.length, hmm]
  have hlp : (padded B).length ≤ 60000 := by (first | lia | omega)
  k_extra "m for"
  k_extra "k_steps"
  rename_i t5 u5 v5 mR F6 N6 _
  refine' for_rangeS (c := 8) (n := mm) (fun i m news => E6c6 (fun vf kf Fi u1 u2 u3 => m = (fun y => if y = Str.ofString "found" then some (.ref fd) else if y = Str.ofString "figure" then u1 else if y = Str.ofString "worth" then u2 else if y = Str.ofString "at" then u3 else if y = Str.ofString "figures" then some (.ref PD) else List.lookup y [(Str.ofString "figures", Value.ref fl)].reverse)) (fun vf kf Fi u1 u2 u3 => news = [(fd, listOf (List.toArray vf) kf), (PD, listOf ws.toArray 0), (fl, listOf (List.toArray vals) n)]) (fun vf kf Fi u1 u2 u3 => IntsAre vf Fi) (fun vf kf Fi u1 u2 u3 => Oct Fi) (fun vf kf Fi u1 u2 u3 => octs Fi = (padded B).take (8 * i)) (fun vf kf Fi u1 u2 u3 => i ≤ mm)) (by rfl) mR ?sm (oct_range mm) F6 (sub_news N6 [(fd, listOf (List.toArray []) 0), (PD, listOf ws.toArray 0), (fl, listOf (List.toArray vals) n)] (by k_extra "m sub")) ?h0 ?turn ?done
  case sm => exact oct_small mm (by (first | lia | omega))
  case h0 => exact ⟨[], _, [], none, none, none, by k_extra "m map", rfl, .nil, (fun _ h => nomatch h), by simp [octs], Nat.zero_le _⟩
  case turn =>
    rintro I i t m news h tk o lI hi ⟨vf, kf, Fi, u1, u2, u3, rfl, rfl, hvf, hoF, hFi, _⟩ hI9 F7 N7
    have hlf : vf.length ≤ 100000 := by
      have q := congrArg List.length hFi
      rw [octs_length, List.length_take] at q
      rw [hvf.length]; (first | lia | omega)
    have hfP : Nq fd PD := by k_extra "m nq"
    k_lt lI
    rw [show (0 : Int) + (i : Nat) * 8 = ((8 * i : Nat) : Int) by (first | lia | omega)] at F7
    k_extra "k_steps"
    k_extra "m turns"
    k_extra "k_steps"
    rename IntsAre _ _ => hw8; rename Fr _ _ _ _ => F8; rename News _ _ _ _ => N8
    have hlen8 : 8 * i + 8 ≤ (padded B).length := by (first | lia | omega)
    obtain ⟨seg, hsg⟩ : ∃ seg, seg = ((padded B).drop (8 * i)).take 8 := ⟨_, rfl⟩
    have hw9 : IntsAre _ seg := ia_eq hw8 (by rw [hsg, show Int.toNat ((8 * i : Nat) : Int) = 8 * i from rfl, seg_len hmm hi])
    have hs8 : seg.length = 8 := by rw [hsg, List.length_take, List.length_drop]; (first | lia | omega)
    have hs01 : ∀ c ∈ seg, c = 0 ∨ c = 1 := fun c hc => padded_01 h01 c (List.mem_of_mem_drop (List.mem_of_mem_take (hsg ▸ hc)))
    refine' for_listN (fun j m news => E2c2 (fun tw v1 => m = (fun y => if y = Str.ofString "worth" then some (.int (val (seg.take j)) tw) else if y = Str.ofString "figure" then v1 else if y = Str.ofString "at" then some (.int ((8 * i : Nat) : Int) t) else if y = Str.ofString "found" then some (.ref fd) else if y = Str.ofString "figures" then some (.ref PD) else List.lookup y [(Str.ofString "figures", Value.ref fl)].reverse)) (fun tw v1 => news = [(I, o), (fd, listOf (List.toArray vf) kf), (PD, listOf ws.toArray 0), (fl, listOf (List.toArray vals) n)])) (by rfl) F8 N8 ⟨_, _, by k_extra "m map", rfl⟩ ?zt ?zd
    case zt =>
      rintro I2 j v m news h tk o2 lI2 hv ⟨tw, v1, rfl, rfl⟩ hI10 F9 N9
      obtain ⟨c, tc, rfl, hc⟩ := hw9.at j v hv
      have hvs : val (seg.take (j + 1)) = 2 * val (seg.take j) + c := by
        rw [List.take_add_one, hc]; show val (_ ++ [c]) = _; rw [val_snoc, Int.mul_comm]
      k_lt lI2
      k_extra "k_steps"
      refine' TEnd.nextF (by assumption) (by assumption) ?zo ⟨_, _, ?zm, rfl⟩
      case zo => k_extra "m off"
      case zm => rw [hvs]; k_extra "m map"
    case zd =>
      rintro m news h tk ⟨tw, v1, rfl, rfl⟩ F9 N9
      rw [List.take_of_length_le (by rw [← hw9.length]; exact Nat.le_refl _)] at F9
      k_extra "k_steps"
      obtain ⟨v1', v2', v3'⟩ := fig_val seg hs01
      rw [hs8] at v1' v3'
      refine' TEnd.nextF (by assumption) (by assumption) ?zo ⟨_, _, Fi ++ [val seg], _, _, _, ?zm, rfl, ints_snoc hvf _ _, ?zq, ?zf, by (first | lia | omega)⟩
      case zo => k_extra "m off"
      case zm => k_extra "m map"
      case zq => exact fun x hx => (List.mem_append.mp hx).elim (hoF x) fun q => by rw [List.mem_singleton.mp q]; exact ⟨v2', v3'⟩
      case zf => rw [octs_snoc, hFi, v1', hsg, show 8 * (i + 1) = 8 * i + 8 by (first | lia | omega), List.take_add]
  case done =>
    rintro m news h tk ⟨vf, kf, Fi, u1, u2, u3, rfl, rfl, hvf, hoF, hFi, _⟩ F7 N7
    rw [List.take_of_length_le (by rw [hmm]; exact Nat.le_refl _)] at hFi
    have hlf : vf.length ≤ sizeLine := by
      have q := congrArg List.length hFi
      rw [octs_length] at q
      rw [hvf.length, sizeLine_eq]; (first | lia | omega)
    k_extra "k_steps"
    exact ret _ _ _ _ hoF hFi (by k_extra "m step")
end
end

theorem words_of_Lf : True := by
  k_with "codeAny" => (((with_reducible show codeAny _ _ (Code.call (Value.ref 636) _) _ _); k_dflt (refine' loctets (by assumption) (by k_extra "m stay") (by k_extra "m room") (by k_extra "m room") (by k_extra "m own") (by assumption) (by assumption) (by first | assumption | omega) ?_); intros; k_extra "m upS"))
  exact trivial
section
/-- a direct reader upon an inner one: idle, and under way -/
inductive DcR0 (w : World) (v sc TD : Addr) (many : Nat) : List (Addr × Obj) → Prop
  | mk (dv y dy bl : Addr) (rv : Value) (i1 i2 tm j1 j2 j3 j4 : Tok) (n1 : Nq dv dy) :
    DcR0 w v sc TD many [(v, instObj 101 dv), (dv, dirD w y many i1 i2 tm), (y, instObj 407 dy), (dy, dcrD w sc TD bl rv j1 j2 j3 j4)]
inductive DcR (w : World) (v sc TD : Addr) (many : Nat) (ks : List Int) (p0 : Nat) : List (Addr × Obj) → Prop
  | mk (dv y dy bl x d : Addr) (b : Array UInt8) (tb ta k1 k2 i1 i2 tm j1 j2 j3 j4 : Tok) (hks : KBw.bInts b = ks) (n1 : Nq dv dy) (n2 : Nq dv d) (n3 : Nq dy d) :
    DcR w v sc TD many ks p0 [(v, instObj 101 dv), (dv, dirD w y many i1 i2 tm), (y, instObj 407 dy), (dy, dcrD w sc TD bl (.ref x) j1 j2 j3 j4), (x, instObj 302 d), (d, rdD w b tb (p0 : Nat) ta k1 k2)]
/-- a direct reader upon an inner one: idle, and under way -/
inductive SqR0 (w : World) (v sc TD : Addr) (many : Nat) : List (Addr × Obj) → Prop
  | mk (dv y dy bl : Addr) (rv : Value) (i1 i2 tm j1 j2 j3 j4 j5 t4 : Tok) (n1 : Nq dv dy) :
    SqR0 w v sc TD many [(v, instObj 101 dv), (dv, dirD w y many i1 i2 tm), (y, instObj 540 dy), (dy, sqrD w sc TD bl rv j1 j2 j3 j4 j5 t4)]
inductive SqR (w : World) (v sc TD : Addr) (many : Nat) (ks : List Int) (p0 : Nat) : List (Addr × Obj) → Prop
  | mk (dv y dy bl x d : Addr) (b : Array UInt8) (tb ta k1 k2 i1 i2 tm j1 j2 j3 j4 j5 t4 : Tok) (hks : KBw.bInts b = ks) (n1 : Nq dv dy) (n2 : Nq dv d) (n3 : Nq dy d) :
    SqR w v sc TD many ks p0 [(v, instObj 101 dv), (dv, dirD w y many i1 i2 tm), (y, instObj 540 dy), (dy, sqrD w sc TD bl (.ref x) j1 j2 j3 j4 j5 t4), (x, instObj 302 d), (d, rdD w b tb (p0 : Nat) ta k1 k2)]
section
variable {w : World} {dp un : Nat} {fr : Option (List Env)} {gd : Option (List Code)} {h₀ : Heap} {s : Shared} {R : Result → Shared → Prop}
theorem dir_rstart_dc (C : Stc w h₀) (k : h₀.StaysIn s.heap) {X : Addr}
  {v sc TD : Addr} {many : Nat} {RB : List (Addr × Obj)} {ds as : Nat → Int} {en : Int} {low : Nat} {b : Array UInt8} {tb : Tok} {ks : List Int} (hd : dp + 10 < recursionLimit) (hu : un + 90 < cLine) (DR : DcR0 w v sc TD many RB) (hsc : ScanAt w h₀ sc many ds as en low) (hks : KBw.bInts b = ks) (O : News h₀ X s.heap (RB))
  (ret : ∀ RB' (h' : Heap) (tk' : Nat), DcR w v sc TD many ks 0 RB' → Step X s.heap h' (RB) (RB') → R (.ok (.ret .none)) { s with heap := h', toks := tk' }) :
  codeAny (model pw w) (ar dp fr gd un) (.call (.ref 84) ⟨[.ref v, .bytes b tb], []⟩) R s := by
  obtain ⟨dv, y, dy, bl, rv, i1, i2, tm, j1, j2, j3, j4, n1⟩ := DR
  refine' begin ([(v, instObj 101 dv), (dv, dirD w y many i1 i2 tm), (y, instObj 407 dy), (dy, dcrD w sc TD bl rv j1 j2 j3 j4)]) [(Str.ofString "self", .ref v), (Str.ofString "octets", .bytes b tb)] (st := sub 3 1) C k (News.ent O) ?ho ?he ?hcd ?hroom ?hbind ?hsc ?_
  case ho => k_is
  case he => exact rfl
  case hcd => k_is
  case hroom => exact lt_of_add hd
  case hbind => exact rfl
  case hsc => exact rfl
  intro g L h₁ mean mg mb tk F N X₁ T₁ En C' K
  have e1 := hsc.keeps K
  k_extra "k_steps"
  refine' ret _ _ _ (.mk dv y dy _ _ _ _ _ _ _ _ _ _ _ _ _ _ _ ?qh ?qa ?qb ?qc) ?qs
  case qs => k_extra "m step"
  case qh => assumption
  case qa => k_extra "m nq"
  case qb => k_extra "m nq"
  case qc => k_extra "m nq"
theorem dir_read_dc (C : Stc w h₀) (k : h₀.StaysIn s.heap) {X : Addr}
  {v sc TD : Addr} {many : Nat} {RB : List (Addr × Obj)} {ks rest : List Int} {p0 : Nat} {tp : Tok} {p low : Nat} {ds as : Nat → Int} {en : Int} {ls : Int → Int → List Int × Nat} {dv0 : Int} {row : Addr} {r0 r1 r2 r3 : Int} {v0 v1 v2 v3 : Tok} {nr : Nat} (hd : dp + 12 < recursionLimit) (hu : un + 150 < cLine) (DR : DcR w v sc TD many ks p0 RB) (hsz : ks.length ≤ 100000) (hp0 : p0 ≤ 8 * ks.length) (H : Tabs w h₀ TD ls) (hrow : s.heap.get? row = some (listOf #[.int r0 v0, .int r1 v1, .int r2 v2, .int r3 v3] nr)) (nrow : NqL row (RB.map (·.1))) (hsc : ScanAt w h₀ sc many ds as en low) (hp : p < many) (V : Cover ls) (hlow : low ≤ 2) (hdv0 : dv0.natAbs ≤ 31) (hc : (octs ks).drop p0 = cod ls 0 (ds p) 0 dv0 ++ rest) (O : News h₀ X s.heap (RB))
  (ret : ∀ D u0 u1 u2 u3 n1 RB' (h' : Heap) (tk' : Nat), DcR w v sc TD many ks (p0 + (cod ls 0 (ds p) 0 dv0).length) RB' → Step X s.heap h' (RB) ((D, listOf #[.int (dv0 * 2 ^ Int.toNat ((low : Nat) : Int)) u0, .int r1 u1, .int r2 u2, .int r3 u3] n1) :: RB') → R (.ok (.ret (.ref D))) { s with heap := h', toks := tk' }) :
  codeAny (model pw w) (ar dp fr gd un) (.call (.ref 91) ⟨[.ref v, .int p tp, .ref row], []⟩) R s := by
  obtain ⟨dv, y, dy, bl, x, d, b, tb, ta, k1, k2, i1, i2, tm, j1, j2, j3, j4, hks, n1, n2, n3⟩ := DR
  refine' begin ([(v, instObj 101 dv), (dv, dirD w y many i1 i2 tm), (y, instObj 407 dy), (dy, dcrD w sc TD bl (.ref x) j1 j2 j3 j4), (x, instObj 302 d), (d, rdD w b tb (p0 : Nat) ta k1 k2)]) [(Str.ofString "self", .ref v), (Str.ofString "place", .int p tp), (Str.ofString "row", .ref row)] (st := sub 3 2) C k (News.ent O) ?ho ?he ?hcd ?hroom ?hbind ?hsc ?_
  case ho => k_is
  case he => exact rfl
  case hcd => k_is
  case hroom => exact lt_of_add hd
  case hbind => exact rfl
  case hsc => exact rfl
  intro g L h₁ mean mg mb tk F N X₁ T₁ En C' K
  have e1 := hsc.keeps K
  have e2 := H.keeps K
  refine ScanAt.elim hsc ?_; intro dsc pl dl al q1 q2 q3 q4 q5 q6 q7 u1 u2 u3 u4 pvs dvs avs np nd na X₂
  have e7 := X₂.m
  clear X₂
  have e3 := En.ro nrow hrow
  k_extra "k_steps"
  exact ret _ _ _ _ _ _ _ _ _ (.mk dv y dy _ _ _ _ _ _ _ _ _ _ _ _ _ _ _ (by assumption) (by k_extra "m nq") (by k_extra "m nq") (by k_extra "m nq")) (by k_extra "m step")
theorem dir_rfinish_dc (C : Stc w h₀) (k : h₀.StaysIn s.heap) {X : Addr}
  {v sc TD : Addr} {many : Nat} {RB : List (Addr × Obj)} {ks : List Int} {p0 : Nat} (hd : dp + 10 < recursionLimit) (hu : un + 100 < cLine) (DR : DcR w v sc TD many ks p0 RB) (hsz : ks.length ≤ 100000) (hp0 : p0 ≤ 8 * ks.length) (hp7 : 8 * ks.length ≤ p0 + 7) (O : News h₀ X s.heap (RB))
  (ret : ∀ RB' (h' : Heap) (tk' : Nat), DcR0 w v sc TD many RB' → Step X s.heap h' (RB) (RB') → R (.ok (.ret .none)) { s with heap := h', toks := tk' }) :
  codeAny (model pw w) (ar dp fr gd un) (.call (.ref 98) ⟨[.ref v], []⟩) R s := by
  obtain ⟨dv, y, dy, bl, x, d, b, tb, ta, k1, k2, i1, i2, tm, j1, j2, j3, j4, hks, n1, n2, n3⟩ := DR
  refine' begin ([(v, instObj 101 dv), (dv, dirD w y many i1 i2 tm), (y, instObj 407 dy), (dy, dcrD w sc TD bl (.ref x) j1 j2 j3 j4), (x, instObj 302 d), (d, rdD w b tb (p0 : Nat) ta k1 k2)]) [(Str.ofString "self", .ref v)] (st := sub 3 3) C k (News.ent O) ?ho ?he ?hcd ?hroom ?hbind ?hsc ?_
  case ho => k_is
  case he => exact rfl
  case hcd => k_is
  case hroom => exact lt_of_add hd
  case hbind => exact rfl
  case hsc => exact rfl
  intro g L h₁ mean mg mb tk F N X₁ T₁ En C' K
  k_extra "k_steps"
  exact ret _ _ _ (.mk dv y dy _ _ _ _ _ _ _ _ _ (by k_extra "m nq")) (by k_extra "m step")
theorem dir_rstart_sq (C : Stc w h₀) (k : h₀.StaysIn s.heap) {X : Addr}
  {v sc TD : Addr} {many : Nat} {RB : List (Addr × Obj)} {ds as : Nat → Int} {en : Int} {low : Nat} {b : Array UInt8} {tb : Tok} {ks : List Int} (hd : dp + 10 < recursionLimit) (hu : un + 90 < cLine) (DR : SqR0 w v sc TD many RB) (hsc : ScanAt w h₀ sc many ds as en low) (hks : KBw.bInts b = ks) (O : News h₀ X s.heap (RB))
  (ret : ∀ RB' (h' : Heap) (tk' : Nat), SqR w v sc TD many ks 0 RB' → Step X s.heap h' (RB) (RB') → R (.ok (.ret .none)) { s with heap := h', toks := tk' }) :
  codeAny (model pw w) (ar dp fr gd un) (.call (.ref 84) ⟨[.ref v, .bytes b tb], []⟩) R s := by
  obtain ⟨dv, y, dy, bl, rv, i1, i2, tm, j1, j2, j3, j4, j5, t4, n1⟩ := DR
  refine' begin ([(v, instObj 101 dv), (dv, dirD w y many i1 i2 tm), (y, instObj 540 dy), (dy, sqrD w sc TD bl rv j1 j2 j3 j4 j5 t4)]) [(Str.ofString "self", .ref v), (Str.ofString "octets", .bytes b tb)] (st := sub 3 1) C k (News.ent O) ?ho ?he ?hcd ?hroom ?hbind ?hsc ?_
  case ho => k_is
  case he => exact rfl
  case hcd => k_is
  case hroom => exact lt_of_add hd
  case hbind => exact rfl
  case hsc => exact rfl
  intro g L h₁ mean mg mb tk F N X₁ T₁ En C' K
  have e1 := hsc.keeps K
  k_extra "k_steps"
  refine' ret _ _ _ (.mk dv y dy _ _ _ _ _ _ _ _ _ _ _ _ _ _ _ _ _ ?qh ?qa ?qb ?qc) ?qs
  case qs => k_extra "m step"
  case qh => assumption
  case qa => k_extra "m nq"
  case qb => k_extra "m nq"
  case qc => k_extra "m nq"
theorem dir_read_sq (C : Stc w h₀) (k : h₀.StaysIn s.heap) {X : Addr}
  {v sc TD : Addr} {many : Nat} {RB : List (Addr × Obj)} {ks rest : List Int} {p0 : Nat} {row : Addr} {tp : Tok} {p low : Nat} {ds as : Nat → Int} {en : Int} {ls : Int → Int → List Int × Nat} {c0 c1 c2 c3 : Int} (hd : dp + 16 < recursionLimit) (hu : un + 200 < cLine) (DR : SqR w v sc TD many ks p0 RB) (hsz : ks.length ≤ 100000) (hp0 : p0 ≤ 8 * ks.length) (H : Tabs w h₀ TD ls) (hsc : ScanAt w h₀ sc many ds as en low) (hp : p < many) (V : Cover ls) (hc : (octs ks).drop p0 = cod ls 0 (ds p) 0 c0 ++ acs ls (as p) [c1, c2, c3] ++ rest) (hC0 : c0.natAbs ≤ 31) (hC1 : c1.natAbs ≤ 31) (hC2 : c2.natAbs ≤ 31) (hC3 : c3.natAbs ≤ 31) (O : News h₀ X s.heap (RB))
  (ret : ∀ D vals n1 RB' (h' : Heap) (tk' : Nat), IntsAre vals [c0, c1, c2, c3] → SqR w v sc TD many ks (p0 + (cod ls 0 (ds p) 0 c0 ++ acs ls (as p) [c1, c2, c3]).length) RB' → Step X s.heap h' (RB) ((D, listOf (List.toArray vals) n1) :: RB') → R (.ok (.ret (.ref D))) { s with heap := h', toks := tk' }) :
  codeAny (model pw w) (ar dp fr gd un) (.call (.ref 91) ⟨[.ref v, .int p tp, .ref row], []⟩) R s := by
  obtain ⟨dv, y, dy, bl, x, d, b, tb, ta, k1, k2, i1, i2, tm, j1, j2, j3, j4, j5, t4, hks, n1, n2, n3⟩ := DR
  refine' begin ([(v, instObj 101 dv), (dv, dirD w y many i1 i2 tm), (y, instObj 540 dy), (dy, sqrD w sc TD bl (.ref x) j1 j2 j3 j4 j5 t4), (x, instObj 302 d), (d, rdD w b tb (p0 : Nat) ta k1 k2)]) [(Str.ofString "self", .ref v), (Str.ofString "place", .int p tp), (Str.ofString "row", .ref row)] (st := sub 3 2) C k (News.ent O) ?ho ?he ?hcd ?hroom ?hbind ?hsc ?_
  case ho => k_is
  case he => exact rfl
  case hcd => k_is
  case hroom => exact lt_of_add hd
  case hbind => exact rfl
  case hsc => exact rfl
  intro g L h₁ mean mg mb tk F N X₁ T₁ En C' K
  have e1 := hsc.keeps K
  have e2 := H.keeps K
  refine ScanAt.elim hsc ?_; intro dsc pl dl al q1 q2 q3 q4 q5 q6 q7 u1 u2 u3 u4 pvs dvs avs np nd na X₂
  have e7 := X₂.m
  clear X₂
  k_extra "k_steps"
  exact ret _ _ _ _ _ _ (by assumption) (.mk dv y dy _ _ _ _ _ _ _ _ _ _ _ _ _ _ _ _ _ (by assumption) (by k_extra "m nq") (by k_extra "m nq") (by k_extra "m nq")) (by k_extra "m step")
theorem dir_rfinish_sq (C : Stc w h₀) (k : h₀.StaysIn s.heap) {X : Addr}
  {v sc TD : Addr} {many : Nat} {RB : List (Addr × Obj)} {ks : List Int} {p0 : Nat} (hd : dp + 10 < recursionLimit) (hu : un + 100 < cLine) (DR : SqR w v sc TD many ks p0 RB) (hsz : ks.length ≤ 100000) (hp0 : p0 ≤ 8 * ks.length) (hp7 : 8 * ks.length ≤ p0 + 7) (O : News h₀ X s.heap (RB))
  (ret : ∀ RB' (h' : Heap) (tk' : Nat), SqR0 w v sc TD many RB' → Step X s.heap h' (RB) (RB') → R (.ok (.ret .none)) { s with heap := h', toks := tk' }) :
  codeAny (model pw w) (ar dp fr gd un) (.call (.ref 98) ⟨[.ref v], []⟩) R s := by
  obtain ⟨dv, y, dy, bl, x, d, b, tb, ta, k1, k2, i1, i2, tm, j1, j2, j3, j4, j5, t4, hks, n1, n2, n3⟩ := DR
  refine' begin ([(v, instObj 101 dv), (dv, dirD w y many i1 i2 tm), (y, instObj 540 dy), (dy, sqrD w sc TD bl (.ref x) j1 j2 j3 j4 j5 t4), (x, instObj 302 d), (d, rdD w b tb (p0 : Nat) ta k1 k2)]) [(Str.ofString "self", .ref v)] (st := sub 3 3) C k (News.ent O) ?ho ?he ?hcd ?hroom ?hbind ?hsc ?_
  case ho => k_is
  case he => exact rfl
  case hcd => k_is
  case hroom => exact lt_of_add hd
  case hbind => exact rfl
  case hsc => exact rfl
  intro g L h₁ mean mg mb tk F N X₁ T₁ En C' K
  k_extra "k_steps"
  exact ret _ _ _ (.mk dv y dy _ _ _ _ _ _ _ _ _ _ _ (by k_extra "m nq")) (by k_extra "m step")
end
end

theorem words_of_Rz : True := by
  k_with "codeAny" => (((with_reducible show codeAny _ _ (Code.call (Value.ref 84) _) _ _); k_dflt (refine' dir_rstart_dc (by assumption) (by k_extra "m stay") (by k_extra "m room") (by k_extra "m room") (by assumption) (by assumption) (by assumption) (by k_extra "m own") ?_); intros; k_extra "m upS"))
  k_with "codeAny" => (((with_reducible show codeAny _ _ (Code.call (Value.ref 91) _) _ _); k_dflt (refine' dir_read_dc (by assumption) (by k_extra "m stay") (by k_extra "m room") (by k_extra "m room") (by assumption) (by assumption) (by first | assumption | omega) (by assumption) (by k_extra "m rd") (by k_extra "m nqt") (by assumption) (by assumption) (by assumption) (by assumption) (by assumption) (by assumption) (by k_extra "m own") ?_); intros; k_extra "m upS"))
  k_with "codeAny" => (((with_reducible show codeAny _ _ (Code.call (Value.ref 98) _) _ _); k_dflt (refine' dir_rfinish_dc (by assumption) (by k_extra "m stay") (by k_extra "m room") (by k_extra "m room") (by assumption) (by assumption) (by first | assumption | omega) (by first | assumption | omega) (by k_extra "m own") ?_); intros; k_extra "m upS"))
  k_with "codeAny" => (((with_reducible show codeAny _ _ (Code.call (Value.ref 84) _) _ _); k_dflt (refine' dir_rstart_sq (by assumption) (by k_extra "m stay") (by k_extra "m room") (by k_extra "m room") (by assumption) (by assumption) (by assumption) (by k_extra "m own") ?_); intros; k_extra "m upS"))
  k_with "codeAny" => (((with_reducible show codeAny _ _ (Code.call (Value.ref 91) _) _ _); k_dflt (refine' dir_read_sq (by assumption) (by k_extra "m stay") (by k_extra "m room") (by k_extra "m room") (by assumption) (by assumption) (by first | assumption | omega) (by assumption) (by assumption) (by assumption) (by assumption) (by assumption) (by assumption) (by assumption) (by assumption) (by assumption) (by k_extra "m own") ?_); intros; k_extra "m upS"))
  k_with "codeAny" => (((with_reducible show codeAny _ _ (Code.call (Value.ref 98) _) _ _); k_dflt (refine' dir_rfinish_sq (by assumption) (by k_extra "m stay") (by k_extra "m room") (by k_extra "m room") (by assumption) (by assumption) (by first | assumption | omega) (by first | assumption | omega) (by k_extra "m own") ?_); intros; k_extra "m upS"))
  exact trivial
section
section
variable {w : World} {dp un : Nat} {fr : Option (List Env)} {gd : Option (List Code)} {h₀ : Heap} {s : Shared} {R : Result → Shared → Prop}
theorem dw_init (C : Stc w h₀) (k : h₀.StaysIn s.heap) {X : Addr}
  {x d : Addr} {y : Addr} {many : Nat} {tm : Tok} (hd : dp + 4 < recursionLimit) (hu : un + 40 < cLine) (O : News h₀ X s.heap ([(x, instObj 59 d), (d, dictOf [] 0)])) (n9 : Nq x d)
  (ret : ∀ k1 k2 (h' : Heap) (tk' : Nat), Step X s.heap h' ([(x, instObj 59 d), (d, dictOf [] 0)]) ([(x, instObj 59 d), (d, dirD w y many k1 k2 tm)]) → R (.ok (.ret .none)) { s with heap := h', toks := tk' }) :
  codeAny (model pw w) (ar dp fr gd un) (.call (.ref 35) ⟨[.ref x, .ref y, .int (many : Int) tm], []⟩) R s := by
  refine' begin ([(x, instObj 59 d), (d, dictOf [] 0)]) [(Str.ofString "self", .ref x), (Str.ofString "inner", .ref y), (Str.ofString "many", .int (many : Int) tm)] (st := sub 2 0) C k (News.ent O) ?ho ?he ?hcd ?hroom ?hbind ?hsc ?_
  case ho => k_is
  case he => exact rfl
  case hcd => k_is
  case hroom => exact lt_of_add hd
  case hbind => exact rfl
  case hsc => exact rfl
  intro g L h₁ mean mg mb tk F N X₁ T₁ En C' K
  k_extra "k_steps"
  exact ret _ _ _ _ (by k_extra "m step")
theorem dr_init (C : Stc w h₀) (k : h₀.StaysIn s.heap) {X : Addr}
  {x d : Addr} {y : Addr} {many : Nat} {tm : Tok} (hd : dp + 4 < recursionLimit) (hu : un + 40 < cLine) (O : News h₀ X s.heap ([(x, instObj 101 d), (d, dictOf [] 0)])) (n9 : Nq x d)
  (ret : ∀ k1 k2 (h' : Heap) (tk' : Nat), Step X s.heap h' ([(x, instObj 101 d), (d, dictOf [] 0)]) ([(x, instObj 101 d), (d, dirD w y many k1 k2 tm)]) → R (.ok (.ret .none)) { s with heap := h', toks := tk' }) :
  codeAny (model pw w) (ar dp fr gd un) (.call (.ref 77) ⟨[.ref x, .ref y, .int (many : Int) tm], []⟩) R s := by
  refine' begin ([(x, instObj 101 d), (d, dictOf [] 0)]) [(Str.ofString "self", .ref x), (Str.ofString "inner", .ref y), (Str.ofString "many", .int (many : Int) tm)] (st := sub 3 0) C k (News.ent O) ?ho ?he ?hcd ?hroom ?hbind ?hsc ?_
  case ho => k_is
  case he => exact rfl
  case hcd => k_is
  case hroom => exact lt_of_add hd
  case hbind => exact rfl
  case hsc => exact rfl
  intro g L h₁ mean mg mb tk F N X₁ T₁ En C' K
  k_extra "k_steps"
  exact ret _ _ _ _ (by k_extra "m step")
theorem scan_init (C : Stc w h₀) (k : h₀.StaysIn s.heap) {X : Addr}
  {x d : Addr} {pl dl al : Addr} {en : Int} {low : Nat} {t1 t2 t3 t4 : Tok} (hd : dp + 4 < recursionLimit) (hu : un + 40 < cLine) (O : News h₀ X s.heap ([(x, instObj 442 d), (d, dictOf [] 0)])) (n9 : Nq x d)
  (ret : ∀ k1 k2 k3 k4 k5 k6 k7 (h' : Heap) (tk' : Nat), Step X s.heap h' ([(x, instObj 442 d), (d, dictOf [] 0)]) ([(x, instObj 442 d), (d, scD w pl dl al en low k1 k2 k3 k4 k5 k6 k7 t1 t2 t3 t4)]) → R (.ok (.ret .none)) { s with heap := h', toks := tk' }) :
  codeAny (model pw w) (ar dp fr gd un) (.call (.ref 425) ⟨[.ref x, .ref pl, .ref dl, .ref al, .int 0 t1, .int en t2, .int 0 t3, .int (low : Int) t4], []⟩) R s := by
  refine' begin ([(x, instObj 442 d), (d, dictOf [] 0)]) [(Str.ofString "self", .ref x), (Str.ofString "places", .ref pl), (Str.ofString "dc_slots", .ref dl), (Str.ofString "ac_slots", .ref al), (Str.ofString "start", .int 0 t1), (Str.ofString "end", .int en t2), (Str.ofString "high", .int 0 t3), (Str.ofString "low", .int (low : Int) t4)] (st := sub 28 0) C k (News.ent O) ?ho ?he ?hcd ?hroom ?hbind ?hsc ?_
  case ho => k_is
  case he => exact rfl
  case hcd => k_is
  case hroom => exact lt_of_add hd
  case hbind => exact rfl
  case hsc => exact rfl
  intro g L h₁ mean mg mb tk F N X₁ T₁ En C' K
  k_extra "k_steps"
  exact ret _ _ _ _ _ _ _ _ _ (by k_extra "m step")
theorem dcw_init (C : Stc w h₀) (k : h₀.StaysIn s.heap) {X : Addr}
  {x d : Addr} {sc sk : Addr} (hd : dp + 4 < recursionLimit) (hu : un + 40 < cLine) (O : News h₀ X s.heap ([(x, instObj 365 d), (d, dictOf [] 0)])) (n9 : Nq x d)
  (ret : ∀ bl k1 k2 k3 (h' : Heap) (tk' : Nat), Step X s.heap h' ([(x, instObj 365 d), (d, dictOf [] 0)]) ([(x, instObj 365 d), (d, dcwD w sc sk bl k1 k2 k3)]) → R (.ok (.ret .none)) { s with heap := h', toks := tk' }) :
  codeAny (model pw w) (ar dp fr gd un) (.call (.ref 341) ⟨[.ref x, .ref sc, .ref sk], []⟩) R s := by
  refine' begin ([(x, instObj 365 d), (d, dictOf [] 0)]) [(Str.ofString "self", .ref x), (Str.ofString "scan", .ref sc), (Str.ofString "sink", .ref sk)] (st := sub 25 0) C k (News.ent O) ?ho ?he ?hcd ?hroom ?hbind ?hsc ?_
  case ho => k_is
  case he => exact rfl
  case hcd => k_is
  case hroom => exact lt_of_add hd
  case hbind => exact rfl
  case hsc => exact rfl
  intro g L h₁ mean mg mb tk F N X₁ T₁ En C' K
  k_extra "k_steps"
  exact ret _ _ _ _ _ _ (by k_extra "m step")
theorem dcr_init (C : Stc w h₀) (k : h₀.StaysIn s.heap) {X : Addr}
  {x d : Addr} {sc TD : Addr} (hd : dp + 4 < recursionLimit) (hu : un + 40 < cLine) (O : News h₀ X s.heap ([(x, instObj 407 d), (d, dictOf [] 0)])) (n9 : Nq x d)
  (ret : ∀ bl k1 k2 k3 k4 (h' : Heap) (tk' : Nat), Step X s.heap h' ([(x, instObj 407 d), (d, dictOf [] 0)]) ([(x, instObj 407 d), (d, dcrD w sc TD bl .none k1 k2 k3 k4)]) → R (.ok (.ret .none)) { s with heap := h', toks := tk' }) :
  codeAny (model pw w) (ar dp fr gd un) (.call (.ref 383) ⟨[.ref x, .ref sc, .ref TD], []⟩) R s := by
  refine' begin ([(x, instObj 407 d), (d, dictOf [] 0)]) [(Str.ofString "self", .ref x), (Str.ofString "scan", .ref sc), (Str.ofString "tables", .ref TD)] (st := sub 26 0) C k (News.ent O) ?ho ?he ?hcd ?hroom ?hbind ?hsc ?_
  case ho => k_is
  case he => exact rfl
  case hcd => k_is
  case hroom => exact lt_of_add hd
  case hbind => exact rfl
  case hsc => exact rfl
  intro g L h₁ mean mg mb tk F N X₁ T₁ En C' K
  k_extra "k_steps"
  exact ret _ _ _ _ _ _ _ (by k_extra "m step")
theorem sqw_init (C : Stc w h₀) (k : h₀.StaysIn s.heap) {X : Addr}
  {x d : Addr} {sc sk : Addr} {tn : Tok} (hd : dp + 4 < recursionLimit) (hu : un + 40 < cLine) (O : News h₀ X s.heap ([(x, instObj 491 d), (d, dictOf [] 0)])) (n9 : Nq x d)
  (ret : ∀ bl k1 k2 k3 k4 t4 (h' : Heap) (tk' : Nat), Step X s.heap h' ([(x, instObj 491 d), (d, dictOf [] 0)]) ([(x, instObj 491 d), (d, sqwD w sc sk bl k1 k2 k3 k4 t4)]) → R (.ok (.ret .none)) { s with heap := h', toks := tk' }) :
  codeAny (model pw w) (ar dp fr gd un) (.call (.ref 467) ⟨[.ref x, .ref sc, .int 2 tn, .ref sk], []⟩) R s := by
  refine' begin ([(x, instObj 491 d), (d, dictOf [] 0)]) [(Str.ofString "self", .ref x), (Str.ofString "scan", .ref sc), (Str.ofString "n", .int 2 tn), (Str.ofString "sink", .ref sk)] (st := sub 33 0) C k (News.ent O) ?ho ?he ?hcd ?hroom ?hbind ?hsc ?_
  case ho => k_is
  case he => exact rfl
  case hcd => k_is
  case hroom => exact lt_of_add hd
  case hbind => exact rfl
  case hsc => exact rfl
  intro g L h₁ mean mg mb tk F N X₁ T₁ En C' K
  k_extra "k_steps"
  exact ret _ _ _ _ _ _ _ _ (by k_extra "m step")
theorem sqr_init (C : Stc w h₀) (k : h₀.StaysIn s.heap) {X : Addr}
  {x d : Addr} {sc TD : Addr} {tn : Tok} (hd : dp + 4 < recursionLimit) (hu : un + 40 < cLine) (O : News h₀ X s.heap ([(x, instObj 540 d), (d, dictOf [] 0)])) (n9 : Nq x d)
  (ret : ∀ bl k1 k2 k3 k4 k5 t4 (h' : Heap) (tk' : Nat), Step X s.heap h' ([(x, instObj 540 d), (d, dictOf [] 0)]) ([(x, instObj 540 d), (d, sqrD w sc TD bl .none k1 k2 k3 k4 k5 t4)]) → R (.ok (.ret .none)) { s with heap := h', toks := tk' }) :
  codeAny (model pw w) (ar dp fr gd un) (.call (.ref 509) ⟨[.ref x, .ref sc, .int 2 tn, .ref TD], []⟩) R s := by
  refine' begin ([(x, instObj 540 d), (d, dictOf [] 0)]) [(Str.ofString "self", .ref x), (Str.ofString "scan", .ref sc), (Str.ofString "n", .int 2 tn), (Str.ofString "tables", .ref TD)] (st := sub 34 0) C k (News.ent O) ?ho ?he ?hcd ?hroom ?hbind ?hsc ?_
  case ho => k_is
  case he => exact rfl
  case hcd => k_is
  case hroom => exact lt_of_add hd
  case hbind => exact rfl
  case hsc => exact rfl
  intro g L h₁ mean mg mb tk F N X₁ T₁ En C' K
  k_extra "k_steps"
  exact ret _ _ _ _ _ _ _ _ _ (by k_extra "m step")
end
end

theorem words_of_In : True := by
  k_with "codeAny" => (((with_reducible show codeAny _ _ (Code.call (Value.ref 35) _) _ _); k_dflt (refine' dw_init (by assumption) (by k_extra "m stay") (by k_extra "m room") (by k_extra "m room") (by k_extra "m own") (by k_extra "m nq") ?_); intros; k_extra "m upS"))
  k_with "codeAny" => (((with_reducible show codeAny _ _ (Code.call (Value.ref 77) _) _ _); k_dflt (refine' dr_init (by assumption) (by k_extra "m stay") (by k_extra "m room") (by k_extra "m room") (by k_extra "m own") (by k_extra "m nq") ?_); intros; k_extra "m upS"))
  k_with "codeAny" => (((with_reducible show codeAny _ _ (Code.call (Value.ref 425) _) _ _); k_dflt (refine' scan_init (by assumption) (by k_extra "m stay") (by k_extra "m room") (by k_extra "m room") (by k_extra "m own") (by k_extra "m nq") ?_); intros; k_extra "m upS"))
  k_with "codeAny" => (((with_reducible show codeAny _ _ (Code.call (Value.ref 341) _) _ _); k_dflt (refine' dcw_init (by assumption) (by k_extra "m stay") (by k_extra "m room") (by k_extra "m room") (by k_extra "m own") (by k_extra "m nq") ?_); intros; k_extra "m upS"))
  k_with "codeAny" => (((with_reducible show codeAny _ _ (Code.call (Value.ref 383) _) _ _); k_dflt (refine' dcr_init (by assumption) (by k_extra "m stay") (by k_extra "m room") (by k_extra "m room") (by k_extra "m own") (by k_extra "m nq") ?_); intros; k_extra "m upS"))
  k_with "codeAny" => (((with_reducible show codeAny _ _ (Code.call (Value.ref 467) _) _ _); k_dflt (refine' sqw_init (by assumption) (by k_extra "m stay") (by k_extra "m room") (by k_extra "m room") (by k_extra "m own") (by k_extra "m nq") ?_); intros; k_extra "m upS"))
  k_with "codeAny" => (((with_reducible show codeAny _ _ (Code.call (Value.ref 509) _) _ _); k_dflt (refine' sqr_init (by assumption) (by k_extra "m stay") (by k_extra "m room") (by k_extra "m room") (by k_extra "m own") (by k_extra "m nq") ?_); intros; k_extra "m upS"))
  exact trivial
section
namespace G_H1
theorem in_H1 : True := trivial
end G_H1
open G_H1
/-- sixteen numbers of codes, all of one length -/
def cnt (n ln : Nat) : List Int := (List.range 16).map fun i => if i + 1 = ln then (n : Int) else 0
theorem cnt_len (n ln : Nat) : (cnt n ln).length = 16 := by simp [cnt]
theorem cnt_nonneg (n ln : Nat) : ∀ a ∈ cnt n ln, 0 ≤ a := fun a h => by
  obtain ⟨i, _, rfl⟩ := List.mem_map.mp h
  split <;> (first | lia | omega)
theorem cnt_sum_aux (m : Nat) (c : Int) : ∀ k, ((List.range k).map fun i => if i + 1 = m + 1 then c else 0).sum = if m < k then c else 0
  | 0 => rfl
  | k + 1 => by
    rw [List.range_succ, List.map_append, List.sum_append, cnt_sum_aux m c k, List.map_singleton, List.sum_singleton]
    by_cases h : k = m
    · rw [if_neg (by (first | lia | omega)), if_pos (by (first | lia | omega)), if_pos (by (first | lia | omega)), Int.zero_add]
    · by_cases h2 : m < k
      · rw [if_pos h2, if_neg (by (first | lia | omega)), if_pos (by (first | lia | omega)), Int.add_zero]
      · rw [if_neg h2, if_neg (by (first | lia | omega)), if_neg (by (first | lia | omega)), Int.add_zero]
theorem cnt_sum (n : Nat) {ln : Nat} (h : 0 < ln ∧ ln ≤ 16) : (cnt n ln).sum = n := by
  obtain ⟨m, rfl⟩ : ∃ m, ln = m + 1 := ⟨ln - 1, by (first | lia | omega)⟩
  unfold cnt
  rw [cnt_sum_aux, if_pos (by (first | lia | omega))]
def inl (l : List Int) : Int → Bool := fun k => decide (k ∈ l)
theorem inl_nil : inl [] = fun _ => false := funext fun k => by simp [inl]
section
variable {w : World} {A : Around} {E : Value → Shared → Prop} {s : Shared} {g : Heap} {L : Addr} {m : Str → Option Value} {news : List (Addr × Obj)}
theorem min_nn {l : Addr} {vs : List Value} {ns : List Int} {k : Nat} {Q : Value → Shared → Prop} (F : Fr g L s.heap m) (N : News g L s.heap news) (hm : (l, listOf vs.toArray k) ∈ news) (hi : IntsAre vs ns) (hne : 0 < ns.length) (hn : ∀ a ∈ ns, 0 ≤ a) (hh : A.handled = none)
    (h : ∀ h' M (t : Tok) tk, Fr g L h' m → News g L h' news → 0 ≤ M → Q (.int M t) { s with heap := h', toks := tk }) : wpAny (model pw w) A (call (.builtin "min") [.ref l]) Q E s :=
  kso_min F N (News.isList N hm) hi hne hh fun h' M t tk F' N' a _ => h h' M t tk F' N' (hn _ a)
theorem sum_as {l : Addr} {vs : List Value} {ns : List Int} {k : Nat} {z : Int} {Q : Value → Shared → Prop} (F : Fr g L s.heap m) (N : News g L s.heap news) (hm : (l, listOf vs.toArray k) ∈ news) (hi : IntsAre vs ns) (hz : ns.sum = z) (hh : A.handled = none)
    (h : ∀ h' tk t', Fr g L h' m → News g L h' news → Q (.int z t') { s with heap := h', toks := tk }) : wpAny (model pw w) A (call (.builtin "sum") [.ref l]) Q E s := by
  obtain ⟨xs, hx⟩ := hi.allInts.items
  refine sum_intListG hh (hx ▸ News.isList N hm) fun h' tk t' hk => ?_
  have e : preSum (numAt xs) xs.size = z := by
    have e1 : ns = xs.toList.map (·.1) := ((show numsOf vs.toArray.toList = ns from hi.numsOf).symm.trans (by rw [hx])).trans (nums_intItems xs)
    rw [preSum_eq, ← hz, e1]; exact congrArg List.sum (List.take_of_length_le (by simp))
  rw [e]
  exact h h' tk t' (F.keeps hk) (N.grown hk)
theorem set_hasnt {sa : Addr} {so : Obj} {gg : Obj → List (Addr × Obj)} {l : List Int} {n : Nat} {c : Int} {t : Tok} {Q : Value → Shared → Prop} (N : News g L s.heap news) (U : UpdF sa so news gg) (hso : so.SetObjOf (intKind pw w) (inl l) n) (hn : n ≤ 1000) (hk : c ∉ l) (h : Q (.bool false) { s with toks := s.toks + 1 }) :
    wpAny (model pw w) A (compareOp .In (.int c t) (.ref sa)) Q E s :=
  kse_in N U hso (by unfold scanBound; (first | lia | omega)) (intKind_is _ _ _ _) rfl (by rw [show inl l c = false from decide_eq_false hk]; exact h)
theorem set_put {sa : Addr} {so : Obj} {gg : Obj → List (Addr × Obj)} {l : List Int} {n : Nat} {c : Int} {t : Tok} {Q : Value → Shared → Prop} (F : Fr g L s.heap m) (N : News g L s.heap news) (U : UpdF sa so news gg) (hso : so.SetObjOf (intKind pw w) (inl l) n) (hn : n ≤ 1000) (hk : c ∉ l)
    (h : ∀ h' so' tk, Fr g L h' m → News g L h' (gg so') → so'.SetObjOf (intKind pw w) (inl (l ++ [c])) (n + 1) → Q .none { s with heap := h', toks := tk }) :
    wpAny (model pw w) A (call (.builtin "set.add") [.ref sa, .int c t]) Q E s :=
  kse_add F N U hso (by unfold scanBound; (first | lia | omega)) (intKind_is _ _ _ _) rfl fun h' so' F' N' x => h h' so' _ F' N' (by
    have e : (fun k' => inl l k' || decide (k' = c)) = inl (l ++ [c]) := funext fun k' => by simp [inl, Bool.decide_or]
    rw [e, if_neg (by rw [show inl l c = false from decide_eq_false hk]; exact fun z => nomatch z)] at x
    exact x)
theorem not_before {l : List Int} (h : l.Nodup) {j : Nat} {c : Int} (e : l[j]? = some c) : c ∉ l.take j := fun q => by
  obtain ⟨i, hi, e2⟩ := List.getElem_of_mem q
  obtain ⟨hj, e3⟩ := List.getElem?_eq_some_iff.mp e
  rw [List.length_take] at hi
  rw [List.getElem_take] at e2
  have := (List.getElem_inj h).mp (e2.trans e3.symm)
  (first | lia | omega)
end
theorem line_48 : True := by
  k_with "call builtin:min" => (guard_expr in_H1 =~ in_H1; (k_here; (with_reducible show wpAny _ _ (call (Value.builtin _) [Value.ref _]) _ _ _); k_dflt (refine' min_nn (by k_asm) (by k_asm) (by k_mem) (by assumption) (by assumption) (by assumption) (by with_unfolding_all rfl) ?_); intro kzh M' kzv kzt kzF kzN b'; (try k_sweep)))
  exact trivial
theorem line_49 : True := by
  k_with "call builtin:sum" => (guard_expr in_H1 =~ in_H1; (k_here; (with_reducible show wpAny _ _ (call (Value.builtin _) [Value.ref _]) _ _ _); k_dflt (refine' sum_as (by k_asm) (by k_asm) (by k_mem) (by assumption) (by assumption) (by with_unfolding_all rfl) ?_); intro kzh kzt kzv kzF kzN; (try k_sweep)))
  exact trivial
theorem line_50 : True := by
  k_with "compareOp In int ref" => (guard_expr in_H1 =~ in_H1; (k_here; k_dflt (refine' set_hasnt (by k_asm) (by k_updF) (by assumption) (by (first | lia | omega)) (by assumption) ?_)))
  exact trivial
theorem line_51 : True := by
  k_with "call builtin:set.add" => (guard_expr in_H1 =~ in_H1; (k_here; k_dflt (refine' set_put (by k_asm) (by k_asm) (by k_updF) (by assumption) (by (first | lia | omega)) (by assumption) ?_); intro kzh o' kzt kzF kzN hs'; (try dsimp only at kzN)))
  exact trivial
theorem line_52 : True := by
  k_with "call builtin:len" => (guard_expr in_H1 =~ in_H1; (k_here; k_dflt (refine' len_listB (by k_asm) (by assumption) (by assumption) (by (first | lia | omega)) ?_); intro kzu kzt))
  exact trivial
theorem line_53 : True := by
  k_with "call builtin:len" => (guard_expr in_H1 =~ in_H1; (k_here; k_dflt (refine' len_listN (by k_asm) (by k_mem) (by assumption) (by (first | lia | omega)) ?_); intro kzu kzt))
  exact trivial
section
variable {w : World} {dp un : Nat} {fr : Option (List Env)} {gd : Option (List Code)} {h₀ : Heap} {s : Shared} {R : Result → Shared → Prop}
theorem told (C : Stc w h₀) (k : h₀.StaysIn s.heap) {X : Addr}
  {cn sy : Addr} {cvs svs : List Value} {syms : List Int} {ln kc ks : Nat} (hd : dp + 4 < recursionLimit) (hu : un + 40 < cLine) (O : News h₀ X s.heap ([(cn, listOf (List.toArray cvs) kc)])) (hc : IntsAre cvs (cnt syms.length ln)) (hln : 0 < ln ∧ ln ≤ 16) (hsy : s.heap.get? sy = some (listOf (List.toArray svs) ks)) (nsy : NqL sy [cn]) (hs : IntsAre svs syms) (hnd : syms.Nodup) (hl : syms.length ≤ 16)
  (ret : ∀ (h' : Heap) (tk' : Nat), Step X s.heap h' ([(cn, listOf (List.toArray cvs) kc)]) ([(cn, listOf (List.toArray cvs) kc)]) → R (.ok (.ret .none)) { s with heap := h', toks := tk' }) :
  codeAny (model pw w) (ar dp fr gd un) (.call (.ref 187) ⟨[.ref cn, .ref sy], []⟩) R s := by
  refine' begin ([(cn, listOf (List.toArray cvs) kc)]) [(Str.ofString "counts", .ref cn), (Str.ofString "symbols", .ref sy)] (st := stm 14) C k (News.ent O) ?ho ?he ?hcd ?hroom ?hbind ?hsc ?_
  case ho => k_is
  case he => exact rfl
  case hcd => k_is
  case hroom => exact lt_of_add hd
  case hbind => exact rfl
  case hsc => exact rfl
  have e1 := cnt_sum syms.length hln
  have e2 := cnt_nonneg syms.length ln
  have e3 : 0 < (cnt syms.length ln).length := by rw [cnt_len]; decide
  have e4 : cvs.length = 16 := by rw [hc.length, cnt_len]
  have e5 : svs.length = syms.length := hs.length
  intro g L h₁ mean mg mb tk F N X₁ T₁ En C' K
  have e6 := En.ro nsy hsy
  k_extra "k_steps"
  · exact absurd rfl (by assumption)
  k_extra "m turns"
  k_extra "k_steps"
  rename Fr _ _ _ _ => F5; rename News _ _ _ _ => N5; rename_i MD _ led hs7 _ _ _
  refine' for_listB (fun j m news => ∃ so u, m = (fun y => if y = Str.ofString "symbol" then u else if y = Str.ofString "met" then some (.ref MD) else List.lookup y [(Str.ofString "counts", Value.ref cn), (Str.ofString "symbols", Value.ref sy)].reverse) ∧ news = [(MD, so), (cn, listOf (List.toArray cvs) kc)] ∧ so.SetObjOf (intKind pw w) (inl (syms.take j)) j ∧ j ≤ syms.length) (by rfl) e6 ListObj.of F5 N5 ?h0 ?turn ?done
  case h0 => exact ⟨_, none, by k_extra "m map", rfl, (by rw [List.take_zero, inl_nil]; exact hs7), Nat.zero_le _⟩
  case turn =>
    intro I j v m news h tk o lI hj hJ hI F₁ N₁
    (with_reducible refine ex2 hJ ?_); clear hJ; intro so u hJ
    (with_reducible refine conj4 hJ ?_); clear hJ; intro hm9 hn9 hso hjl
    replace F₁ := Fr.cast hm9 F₁; replace N₁ := News.castT hn9 N₁; rw [hn9] at hI; replace hI := NqL.ofne hI; dsimp only [List.map] at hI; clear hm9 hn9
    obtain ⟨c, tc, rfl, hc⟩ := hs.at j v hj
    have hn := not_before hnd hc
    have hj2 : j < syms.length := (List.getElem?_eq_some_iff.mp hc).1
    k_lt lI
    k_extra "k_steps"
    refine' TEnd.nextF (by assumption) (News.sub (by assumption) (by k_extra "m sb")) ?zo ⟨_, _, ?zm, rfl, by rw [List.take_add_one, hc]; assumption, hj2⟩
    case zo => k_extra "m off"
    case zm => k_extra "m map"
  case done =>
    intro m news h tk hJ F₁ N₁
    (with_reducible refine ex2 hJ ?_); clear hJ; intro so u hJ
    (with_reducible refine conj4 hJ ?_); clear hJ; intro hm9 hn9 hso hjl
    replace F₁ := Fr.cast hm9 F₁; replace N₁ := News.cast hn9 N₁; clear hm9 hn9
    k_extra "k_steps"
    exact ret _ _ (by k_extra "m step")
end
end

theorem words_of_H1 : True := by
  k_with "codeAny" => (((with_reducible show codeAny _ _ (Code.call (Value.ref 187) _) _ _); k_dflt (refine' told (by assumption) (by k_extra "m stay") (by k_extra "m room") (by k_extra "m room") (by k_extra "m own") (by assumption) (by assumption) (by k_extra "m rd") (by k_extra "m nqs") (by assumption) (by assumption) (by first | assumption | omega) ?_); intros; k_extra "m upS"))
  exact trivial
section
namespace G_H2
theorem in_H2 : True := trivial
end G_H2
open G_H2
theorem cnt_get {cvs : List Value} {n ln i : Nat} (h : IntsAre cvs (cnt n ln)) (hi : i < 16) : ∃ t, cvs[i]? = some (.int (if i + 1 = ln then (n : Int) else 0) t) := by
  have hl := h.length
  rw [cnt_len] at hl
  obtain ⟨c, t, e, e2⟩ := h.at i _ (List.getElem?_eq_getElem (by (first | lia | omega)))
  have e3 : (cnt n ln)[i]? = some (if i + 1 = ln then (n : Int) else 0) := by simp [cnt, hi]
  rw [e3] at e2
  cases e2
  exact ⟨t, by rw [List.getElem?_eq_getElem (by (first | lia | omega)), e]⟩
inductive RwsR (n ln : Nat) (vals : List Value) (TL : List (Addr × Obj)) (i : Nat) : Prop
  | mk (r : Addr) (c p : Int) (t1 t2 t3 : Tok) (e1 : vals[i]? = some (.ref r)) (e2 : (r, tupOf [.int c t1, .int (if i + 1 = ln then (n : Int) else 0) t2, .int p t3] 0) ∈ TL) (e3 : i < ln → c = 0 ∧ p = 0) : RwsR n ln vals TL i
/-- rows of codes: j of them, their tuples lie in TL -/
structure Rws (n ln j : Nat) (vals : List Value) (TL : List (Addr × Obj)) : Prop where
  len : vals.length = j
  row : ∀ i, i < j → RwsR n ln vals TL i
theorem Rws.snoc {n ln j : Nat} {vals : List Value} {TL : List (Addr × Obj)} {r : Addr} {c p mm : Int} {t1 t2 t3 : Tok} (R : Rws n ln j vals TL) (hm : (if j + 1 = ln then (n : Int) else 0) = mm) (h0 : j < ln → c = 0 ∧ p = 0) : Rws n ln (j + 1) (vals ++ [.ref r]) ((r, tupOf [.int c t1, .int mm t2, .int p t3] 0) :: TL) where
  len := by rw [List.length_append, R.len]; rfl
  row := fun i hi => by
    rcases Nat.lt_or_ge i j with h | h
    · obtain ⟨r', c', p', a1, a2, a3, e1, e2, e3⟩ := R.row i h
      exact ⟨r', c', p', a1, a2, a3, by rw [List.getElem?_append_left (by rw [R.len]; exact h)]; exact e1, .tail _ e2, e3⟩
    · obtain rfl : i = j := by (first | lia | omega)
      exact ⟨r, c, p, t1, t2, t3, by rw [List.getElem?_append_right (by rw [R.len]; exact Nat.le_refl _), R.len, Nat.sub_self]; rfl, by rw [hm]; exact .head _, h0⟩
theorem rows_lt {n ln i : Nat} (h : n < 2 ^ ln) (e : i + 1 = ln) : (n : Int) < 2 ^ Int.toNat (1 + (i : Int)) := by
  rw [show Int.toNat (1 + (i : Int)) = ln by (first | lia | omega), ← kbt_cast]
  exact Int.ofNat_lt.mpr h
theorem pow_up (i : Nat) (h : i < 16) : (2 : Int) ^ (i + 6) = 2 * 2 ^ (i + 5) ∧ (2 : Int) ^ (i + 5) ≤ 2097152 ∧ (32 : Int) ≤ 2 ^ (i + 5) := by
  refine ⟨by rw [show i + 6 = (i + 5) + 1 from rfl, Int.pow_succ, Int.mul_comm], ?_, ?_⟩
  · have := p2_le (show i + 5 ≤ 21 by (first | lia | omega)); exact this
  · have := p2_le (show 5 ≤ i + 5 by (first | lia | omega)); exact this
theorem rows_turn {n ln i : Nat} {c p mm : Int} (hm : (if i + 1 = ln then (n : Int) else 0) = mm) (h0 : i < ln → c = 0 ∧ p = 0) (hi : i < 16) (hl : n ≤ 16) (hc0 : 0 ≤ c) (hc1 : c ≤ 2 ^ (i + 5)) (hp0 : 0 ≤ p) (hp1 : p ≤ 16) (hpn : ln ≤ i → p = n) :
    (i + 1 < ln → (c + mm) * 2 = 0 ∧ p + mm = 0) ∧ 0 ≤ (c + mm) * 2 ∧ (c + mm) * 2 ≤ 2 ^ (i + 1 + 5) ∧ 0 ≤ p + mm ∧ p + mm ≤ 16 ∧ (ln ≤ i + 1 → p + mm = n) := by
  obtain ⟨a, _, b⟩ := pow_up i hi
  have a : (2 : Int) ^ (i + 1 + 5) = 2 * 2 ^ (i + 5) := a
  rw [a]
  generalize (2 : Int) ^ (i + 5) = P at *
  split at hm
  · obtain ⟨rfl, rfl⟩ := h0 (by (first | lia | omega))
    subst hm
    refine ⟨fun h => absurd h (by (first | lia | omega)), by (first | lia | omega), by (first | lia | omega), by (first | lia | omega), by (first | lia | omega), fun _ => by (first | lia | omega)⟩
  · subst hm
    refine ⟨fun h => ?_, by (first | lia | omega), by (first | lia | omega), by (first | lia | omega), by (first | lia | omega), fun h => ?_⟩
    · obtain ⟨rfl, rfl⟩ := h0 (by (first | lia | omega)); exact ⟨rfl, rfl⟩
    · have := hpn (by (first | lia | omega)); (first | lia | omega)
theorem line_54 : True := by
  k_with "subscriptTail" => (guard_expr in_H2 =~ in_H2; (k_here; (with_reducible show wpAny _ _ (subscriptTail _ _ (Value.ref _) (Value.int _ _)) _ _ _); k_dflt (refine' tup_itemB (by k_asm) (by assumption) (by assumption) (by (first | lia | omega)) (by (first | lia | omega)) ?_)))
  exact trivial
theorem len_tupB {prog : Program} {w : World} {A : Around} {E : Value → Shared → Prop} {s : Shared} {g : Heap} {L : Addr} {m : Str → Option Value} {t : Addr} {vs : List Value} {n k : Nat} {Q : Value → Shared → Prop} (F : Fr g L s.heap m) (e : g.get? t = some (tupOf vs n)) (hl : vs.length = k) (hk : k < 1000000) (h : ∀ u tk, Q (.int (k : Int) u) { s with toks := tk }) :
    wpAny (model prog w) A (call (.builtin "len") [.ref t]) Q E s :=
  len_tuple (tup_base F e) (by rw [List.size_toArray, hl]; (first | lia | omega)) (by rw [List.size_toArray, hl]; exact h _ _)
theorem line_55 : True := by
  k_with "call builtin:len" => (guard_expr in_H2 =~ in_H2; (k_here; k_dflt (refine' len_tupB (by k_asm) (by assumption) (by assumption) (by (first | lia | omega)) ?_); intro kzu kzt))
  exact trivial
theorem line_56 : True := by
  k_with "call builtin:list.append" => (guard_expr in_H2 =~ in_H2; (k_here; k_dflt (refine' lst_append (by k_asm) (by k_asm) (by k_updF) (by (first | lia | omega)) ?_); intro kzh kzF kzN; (try dsimp only at kzN); (try k_sweep)))
  exact trivial
section
variable {w : World} {dp un : Nat} {fr : Option (List Env)} {gd : Option (List Code)} {h₀ : Heap} {s : Shared} {R : Result → Shared → Prop}
theorem coderows (C : Stc w h₀) (k : h₀.StaysIn s.heap) {X : Addr}
  {ct : Addr} {cvs : List Value} {n ln nt : Nat} (hd : dp + 4 < recursionLimit) (hu : un + 40 < cLine) (O : News h₀ X s.heap ([])) (hc : IntsAre cvs (cnt n ln)) (hln : 0 < ln ∧ ln ≤ 16) (hct : s.heap.get? ct = some (tupOf cvs nt)) (hl : n ≤ 16) (hf : n < 2 ^ ln)
  (ret : ∀ D vals nr TL (h' : Heap) (tk' : Nat), Rws n ln 16 vals TL → Step X s.heap h' ([]) ((D, listOf (List.toArray vals) nr) :: TL) → R (.ok (.ret (.ref D))) { s with heap := h', toks := tk' }) :
  codeAny (model pw w) (ar dp fr gd un) (.call (.ref 180) ⟨[.ref ct], []⟩) R s := by
  refine' begin ([]) [(Str.ofString "counts", .ref ct)] (st := stm 13) C k (News.ent O) ?ho ?he ?hcd ?hroom ?hbind ?hsc ?_
  case ho => k_is
  case he => exact rfl
  case hcd => k_is
  case hroom => exact lt_of_add hd
  case hbind => exact rfl
  case hsc => exact rfl
  have e4 : cvs.length = 16 := by rw [hc.length, cnt_len]
  intro g L h₁ mean mg mb tk F N X₁ T₁ En C' K
  have e6 := En.ro (a := ct) NqL.nil hct
  k_extra "k_steps"
  k_extra "m for"
  k_extra "k_steps"
  rename IsRange _ _ _ _ _ _ _ _ => mR; rename Fr _ _ _ _ => F5; rename News _ _ _ _ => N5
  rename_i RD _ _ _ _ _ _ _ _ _ _ _ _ _ _ _ _
  refine' for_range (n := 16) (fun i m news => ∃ TL vals kr c p tc tp u1 u2, m = (fun y => if y = Str.ofString "many" then u1 else if y = Str.ofString "size" then u2 else if y = Str.ofString "place" then some (.int p tp) else if y = Str.ofString "code" then some (.int c tc) else if y = Str.ofString "rows" then some (.ref RD) else List.lookup y [(Str.ofString "counts", Value.ref ct)].reverse)
    ∧ news = (RD, listOf (List.toArray vals) kr) :: TL ∧ Rws n ln i vals TL ∧ ((i < ln → c = 0 ∧ p = 0) ∧ 0 ≤ c ∧ c ≤ 2 ^ (i + 5) ∧ 0 ≤ p ∧ p ≤ 16 ∧ (ln ≤ i → p = n)) ∧ NqL RD (TL.map (·.1))) (by rfl) mR (by decide) (by decide) F5 (News.sub N5 (S := [(RD, listOf (List.toArray []) 0)]) (by k_extra "m sb")) ?h0 ?turn ?done
  case h0 => exact ⟨[], [], _, 0, 0, _, _, none, none, by k_extra "m map", rfl, ⟨rfl, fun i hi => absurd hi (Nat.not_lt_zero i)⟩, ⟨fun _ => ⟨rfl, rfl⟩, Int.le_refl _, by decide, Int.le_refl _, by decide, fun h => absurd h (by (first | lia | omega))⟩, NqL.nil⟩
  case turn =>
    intro I i t m news h tk o lI hi hJ hI F₁ N₁
    (with_reducible refine ex9 hJ ?_); clear hJ; intro TL vals kr c p tc tp u1 u2 hJ
    (with_reducible refine conj5 hJ ?_); clear hJ; intro hm9 hn9 hR hB nRD
    replace F₁ := Fr.castR hm9 F₁; replace N₁ := News.castT hn9 N₁; rw [hn9] at hI; replace hI := NqL.ofne hI; dsimp only [List.map] at hI; clear hm9 hn9
    obtain ⟨h0, hc0, hc1, hp0, hp1, hpn⟩ := hB
    obtain ⟨tm, hget⟩ := cnt_get hc hi
    obtain ⟨hw1, hw2, hw3⟩ := pow_up i hi
    have hlv : vals.length ≤ 100 := by have := hR.len; (first | lia | omega)
    generalize hm : (if i + 1 = ln then (n : Int) else 0) = mm at hget
    have hm7 := hm
    have hT := rows_turn hm h0 hi hl hc0 hc1 hp0 hp1 hpn
    k_lt lI
    rcases Decidable.em (i + 1 = ln) with hz | hz
    · rw [if_pos hz] at hm
      obtain ⟨hc9, hp9⟩ := h0 (by (first | lia | omega))
      have hA := rows_lt hf hz
      k_extra "k_steps"
      all_goals
        rename Fr _ _ _ _ => F9; rename News _ _ _ _ => N9; rename NqL _ _ => lD
        rename_i DT _ _ _ _ _ _ _ 
        refine' TEnd.nextF F9 (News.sub N9 (S := (I, o) :: (RD, listOf (List.toArray (vals ++ [.ref DT])) (kr + 1)) :: (DT, tupOf [.int c tc, .int mm tm, .int p tp] 0) :: TL) (by k_extra "m sb")) ?zo (mk9 (a0 := (DT, tupOf [.int c tc, .int mm tm, .int p tp] 0) :: TL) (a1 := vals ++ [.ref DT]) ⟨?zm, rfl, hR.snoc hm7 h0, hT, NqL.cons (NqL.hd (NqL.tl lD)).symm nRD⟩)
        case zo => k_extra "m off"
        case zm => k_extra "m map"
    · rw [if_neg hz] at hm
      k_extra "k_steps"
      all_goals
        rename Fr _ _ _ _ => F9; rename News _ _ _ _ => N9; rename NqL _ _ => lD
        rename_i DT _ _ _ _ _ _ _ _
        refine' TEnd.nextF F9 (News.sub N9 (S := (I, o) :: (RD, listOf (List.toArray (vals ++ [.ref DT])) (kr + 1)) :: (DT, tupOf [.int c tc, .int mm tm, .int p tp] 0) :: TL) (by k_extra "m sb")) ?zo (mk9 (a0 := (DT, tupOf [.int c tc, .int mm tm, .int p tp] 0) :: TL) (a1 := vals ++ [.ref DT]) ⟨?zm, rfl, hR.snoc hm7 h0, hT, NqL.cons (NqL.hd (NqL.tl lD)).symm nRD⟩)
        case zo => k_extra "m off"
        case zm => k_extra "m map"
  case done =>
    intro m news h tk hJ F₁ N₁
    (with_reducible refine ex9 hJ ?_); clear hJ; intro TL vals kr c p tc tp u1 u2 hJ
    (with_reducible refine conj5 hJ ?_); clear hJ; intro hm9 hn9 hR hB nRD
    replace F₁ := Fr.cast hm9 F₁; replace N₁ := News.cast hn9 N₁; clear hm9 hn9
    k_extra "k_steps"
    exact ret _ _ _ _ _ _ hR (by k_extra "m step")
end
end

theorem words_of_H2 : True := by
  k_with "codeAny" => (((with_reducible show codeAny _ _ (Code.call (Value.ref 180) _) _ _); k_dflt (refine' coderows (by assumption) (by k_extra "m stay") (by k_extra "m room") (by k_extra "m room") (by k_extra "m own") (by assumption) (by assumption) (by k_extra "m rd") (by first | assumption | omega) (by assumption) ?_); intros; k_extra "m upS"))
  exact trivial
section
namespace G_Lg
theorem in_Lg : True := trivial
end G_Lg
open G_Lg
theorem News.castT2 {g h : Heap} {L : Addr} {p q : Addr × Obj} {l l' : List (Addr × Obj)} (e : l = l') (N : News g L h (p :: q :: l)) : News g L h (p :: q :: l') := e ▸ N
theorem fdiv_one_as {prog : Program} {w : World} {A : Around} {E : Value → Shared → Prop} {s : Shared} {r : Int} {t u : Tok} {Q : Value → Shared → Prop} (h : Q (.int r s.toks) { s with toks := s.toks + 1 }) : wpAny (model prog w) A (binaryOp .FloorDiv (.int r t) (.int (2 ^ Int.toNat ((0 : Nat) : Int)) u)) Q E s := by
  have e : (2 : Int) ^ Int.toNat ((0 : Nat) : Int) = 1 := rfl
  rw [e]
  exact floordiv_int (by decide) (by rw [Int.fdiv_one]; exact h) (.inl (PyProof.noPylong_small (by decide)))
theorem line_57 : True := by
  k_with "subscriptTail Name Slice ref ref" => (guard_expr in_Lg =~ in_Lg; (k_here; k_dflt (refine' slice4B (by k_asm) (by k_asm) (by with_reducible assumption) ?_); intro kzD kzh kzF kzN kz1; (try k_lt kz1); (try k_sweep)))
  exact trivial
section
variable {w : World} {dp un : Nat} {fr : Option (List Env)} {gd : Option (List Code)} {h₀ : Heap} {s : Shared} {R : Result → Shared → Prop}
theorem lblock_dc (C : Stc w h₀) (k : h₀.StaysIn s.heap) {X : Addr}
  {LD sc : Addr} {ls : Int → Int → List Int × Nat} {many p low : Nat} {ds as : Nat → Int} {en : Int} {tp : Tok} {row : Addr} {r0 r1 r2 r3 : Int} {v0 v1 v2 v3 : Tok} {nr : Nat} (hd : dp + 10 < recursionLimit) (hu : un + 120 < cLine) (O : News h₀ X s.heap ([])) (H : Lsts w h₀ LD ls) (V : Cover ls) (hsc : ScanAt w h₀ sc many ds as en low) (hrow : s.heap.get? row = some (listOf #[.int r0 v0, .int r1 v1, .int r2 v2, .int r3 v3] nr)) (hp : p < many) (hr0 : r0.natAbs ≤ 31) (hen : en = 0) (hlow : low ≤ 2)
  (ret : ∀ D vals n1 (h' : Heap) (tk' : Nat), IntsAre vals (cod ls 0 (ds p) 0 (r0.fdiv (2 ^ Int.toNat ((low : Nat) : Int)))) → vals.length ≤ 100 → Step X s.heap h' ([]) ([(D, listOf (List.toArray vals) n1)]) → R (.ok (.ret (.ref D))) { s with heap := h', toks := tk' }) :
  codeAny (model pw w) (ar dp fr gd un) (.call (.ref 629) ⟨[.ref LD, .ref sc, .int p tp, .ref row], []⟩) R s := by
  refine ScanAt.elim hsc ?_; intro dsc pl dl al q1 q2 q3 q4 q5 q6 q7 u1 u2 u3 u4 pvs dvs avs np nd na X₂
  refine' begin ([]) [(Str.ofString "lists", .ref LD), (Str.ofString "scan", .ref sc), (Str.ofString "place", .int p tp), (Str.ofString "row", .ref row)] (st := stm 44) C k (News.ent O) ?ho ?he ?hcd ?hroom ?hbind ?hsc ?_
  case ho => k_is
  case he => exact rfl
  case hcd => k_is
  case hroom => exact lt_of_add hd
  case hbind => exact rfl
  case hsc => exact rfl
  have e8 := X₂.d01 p
  have e8' := X₂.a01 p
  obtain ⟨tds, e9⟩ := X₂.d p hp
  obtain ⟨tas, e9'⟩ := X₂.a p hp
  intro g L h₁ mean mg mb tk F N X₁ T₁ En C' K
  have e1 := K _ _ X₂.oS
  have e2 := K _ _ X₂.oD
  have e3 := K _ _ X₂.oP
  have e4 := K _ _ X₂.oDl
  have e5 := K _ _ X₂.oAl
  have e6 := X₂.lP
  have e7 := X₂.m
  have e10 := H.keeps K
  have e14 := En.ro (a := row) NqL.nil hrow
  have hq : (r0.fdiv (2 ^ Int.toNat ((low : Nat) : Int))).natAbs ≤ 31 := fdiv_small hr0
  have hi := V.dc (ds p) (r0.fdiv (2 ^ Int.toNat ((low : Nat) : Int))) e8 hq
  subst hen
  k_extra "k_steps"
  exact ret _ _ _ _ _ (by assumption) (by (first | lia | omega)) (by k_extra "m step")
theorem line_58 : True := by
  k_with "binaryOp FloorDiv int int" => (guard_expr in_Lg =~ in_Lg; (k_here; (with_reducible refine fdiv_one_as ?_)))
  exact trivial
theorem line_59 : True := by
  k_with "subscriptTail" => (guard_expr in_Lg =~ in_Lg; (k_here; (with_reducible show wpAny _ _ (subscriptTail _ _ (Value.ref _) (Value.int 0 _)) _ _ _); k_dflt (refine' tup_itemB (j := 0) (by k_asm) (by assumption) (by exact rfl) (by exact rfl) (by decide) ?_)))
  exact trivial
theorem line_60 : True := by
  k_with "subscriptTail" => (guard_expr in_Lg =~ in_Lg; (k_here; (with_reducible show wpAny _ _ (subscriptTail _ _ (Value.ref _) (Value.int 1 _)) _ _ _); k_dflt (refine' tup_itemB (j := 1) (by k_asm) (by assumption) (by exact rfl) (by exact rfl) (by decide) ?_)))
  exact trivial
theorem lblock_sq (C : Stc w h₀) (k : h₀.StaysIn s.heap) {X : Addr}
  {LD sc : Addr} {ls : Int → Int → List Int × Nat} {many p low : Nat} {ds as : Nat → Int} {en : Int} {tp : Tok} {row : Addr} {r0 r1 r2 r3 : Int} {v0 v1 v2 v3 : Tok} {nr : Nat} (hd : dp + 10 < recursionLimit) (hu : un + 120 < cLine) (O : News h₀ X s.heap ([])) (H : Lsts w h₀ LD ls) (V : Cover ls) (hsc : ScanAt w h₀ sc many ds as en low) (hrow : s.heap.get? row = some (listOf #[.int r0 v0, .int r1 v1, .int r2 v2, .int r3 v3] nr)) (hp : p < many) (hr0 : r0.natAbs ≤ 31) (hen : en = 3) (hlow : low = 0) (hr1 : r1.natAbs ≤ 31) (hr2 : r2.natAbs ≤ 31) (hr3 : r3.natAbs ≤ 31)
  (ret : ∀ D vals n1 (h' : Heap) (tk' : Nat), IntsAre vals (cod ls 0 (ds p) 0 r0 ++ acs ls (as p) [r1, r2, r3]) → vals.length ≤ 100 → Step X s.heap h' ([]) ([(D, listOf (List.toArray vals) n1)]) → R (.ok (.ret (.ref D))) { s with heap := h', toks := tk' }) :
  codeAny (model pw w) (ar dp fr gd un) (.call (.ref 629) ⟨[.ref LD, .ref sc, .int p tp, .ref row], []⟩) R s := by
  refine ScanAt.elim hsc ?_; intro dsc pl dl al q1 q2 q3 q4 q5 q6 q7 u1 u2 u3 u4 pvs dvs avs np nd na X₂
  refine' begin ([]) [(Str.ofString "lists", .ref LD), (Str.ofString "scan", .ref sc), (Str.ofString "place", .int p tp), (Str.ofString "row", .ref row)] (st := stm 44) C k (News.ent O) ?ho ?he ?hcd ?hroom ?hbind ?hsc ?_
  case ho => k_is
  case he => exact rfl
  case hcd => k_is
  case hroom => exact lt_of_add hd
  case hbind => exact rfl
  case hsc => exact rfl
  have e8 := X₂.d01 p
  have e8' := X₂.a01 p
  obtain ⟨tds, e9⟩ := X₂.d p hp
  obtain ⟨tas, e9'⟩ := X₂.a p hp
  intro g L h₁ mean mg mb tk F N X₁ T₁ En C' K
  have e1 := K _ _ X₂.oS
  have e2 := K _ _ X₂.oD
  have e3 := K _ _ X₂.oP
  have e4 := K _ _ X₂.oDl
  have e5 := K _ _ X₂.oAl
  have e6 := X₂.lP
  have e7 := X₂.m
  have e10 := H.keeps K
  have e14 := En.ro (a := row) NqL.nil hrow
  have hi := V.dc (ds p) r0 e8 hr0
  have hq1 : r0.fdiv (2 ^ Int.toNat ((0 : Nat) : Int)) = r0 := by show r0.fdiv 1 = r0; exact Int.fdiv_one r0
  subst hen hlow
  k_extra "k_steps"
  k_extra "m turns"
  k_extra "k_steps"
  rename Fr _ _ _ _ => F6; rename News _ _ _ _ => N6
  rename Addr => DS
  rename_i D1 vs1 nn1 _ _ hI1 hl1 _ tk3 tk2 DK _ _ _ _ _ _ _ _
  refine' for_listN (fun j m news => ∃ FD vf kf x1 ahead tah, m = (fun y => if y = Str.ofString "figures" then some (.ref FD) else if y = Str.ofString "ahead" then some (.int ahead tah) else if y = Str.ofString "value" then x1 else if y = Str.ofString "key" then some (.ref DK) else List.lookup y [(Str.ofString "lists", .ref LD), (Str.ofString "scan", .ref sc), (Str.ofString "place", .int p tp), (Str.ofString "row", .ref row)].reverse)
    ∧ news = [(FD, listOf (List.toArray vf) kf), (DK, tupOf [.int 1 tk2, .int (as p) tas] 0)]
    ∧ IntsAre vf (cod ls 0 (ds p) 0 r0 ++ (([r1, r2, r3].take j).foldl (acGo ls (as p)) ([], 0)).1) ∧ vf.length ≤ 20 + 20 * j ∧ ahead = (([r1, r2, r3].take j).foldl (acGo ls (as p)) ([], 0)).2 ∧ 0 ≤ ahead ∧ ahead ≤ j) (by rfl) F6 (sub_news N6 [(DS, listOf (List.toArray [.int r1 v1, .int r2 v2, .int r3 v3]) 0), (D1, listOf (List.toArray vs1) nn1), (DK, tupOf [.int 1 tk2, .int (as p) tas] 0)] (by k_extra "m sub")) ?h0 ?turn ?done
  case h0 => exact ⟨D1, vs1, _, none, 0, _, (by k_extra "m map"), rfl, (by rw [List.take_zero, List.foldl_nil, List.append_nil]; exact hI1), by (first | lia | omega), rfl, Int.le_refl _, Int.le_refl _⟩
  case turn =>
    intro I i v m news h tk o lI hi3 hJ hI F7 N7
    (with_reducible refine ex6 hJ ?_); clear hJ; intro FD vf kf x1 ahead tah hJ
    (with_reducible refine conj7 hJ ?_); clear hJ; intro hm9 hn9 hvf hlf hah h0a hai
    replace F7 := Fr.cast hm9 F7; replace N7 := News.castT2 hn9 N7; rw [hn9] at hI; replace hI := NqL.ofne hI; dsimp only [List.map] at hI; clear hm9 hn9
    have hi4 : i < 3 := (List.getElem?_eq_some_iff.mp hi3).1
    obtain ⟨rk, vk, hx6, hx7, hrk⟩ := row_at (r0 := r0) (v0 := v0) (v1 := v1) (v2 := v2) (v3 := v3) hr1 hr2 hr3 hi4
    have hv : v = .int rk vk := by rw [List.getElem?_cons_succ, hi3] at hx6; exact Option.some.inj hx6
    subst hv
    have nq8 : Nq FD I := hI.hd
    have hst := acs_turn ls (as p) [r1, r2, r3] hx7
    k_lt lI
    by_cases h00 : rk = 0
    · subst h00
      k_extra "k_steps"
      rw [acGo, if_pos rfl] at hst
      refine' TEnd.nextF (by assumption) (by assumption) ?zo (mk6 (a1 := vf) (a4 := ahead + 1) ⟨?zm, rfl, ?zb, ?zl, ?zr, ?zr0, ?zr1⟩)
      case zo => k_extra "m off"
      case zm => k_extra "m map"
      case zb => rw [hst]; exact hvf
      case zl => (first | lia | omega)
      case zr => rw [hst]; show ahead + 1 = _ + 1; rw [hah]
      case zr0 => (first | lia | omega)
      case zr1 => (first | lia | omega)
    · have hi := V.ac (as p) ahead rk e8' h0a (by (first | lia | omega)) h00 hrk
      k_extra "k_steps"
      · exact absurd (by assumption) h00
      rw [acGo, if_neg h00] at hst
      rename Fr _ _ _ _ => F9; rename News _ _ _ _ => N9
      rename_i vals9 _ _ _ _ _ _ _ _ _ _ _
      refine' TEnd.nextF F9 (News.sub N9 (S := (I, o) :: (DS, listOf (List.toArray [.int r1 v1, .int r2 v2, .int r3 v3]) 0) :: (kzD, listOf (List.toArray (vf ++ vals9)) 0) :: (DK, tupOf [.int 1 tk2, .int (as p) tas] 0) :: []) (by k_extra "m sb")) ?zo (mk6 ⟨?zm, rfl, ?zb, ?zl, ?zr, ?zr0, ?zr1⟩)
      case zo => k_extra "m off"
      case zm => k_extra "m map"
      case zb => rw [hst, ← hah, ← List.append_assoc]; exact ints_app hvf (by assumption)
      case zl => rw [List.length_append]; (first | lia | omega)
      case zr => rw [hst]
      case zr0 => (first | lia | omega)
      case zr1 => (first | lia | omega)
  case done =>
    intro m news h tk hJ F7 N7
    (with_reducible refine ex6 hJ ?_); clear hJ; intro FD vf kf x1 ahead tah hJ
    (with_reducible refine conj7 hJ ?_); clear hJ; intro hm9 hn9 hvf hlf hah h0a hai
    replace F7 := Fr.cast hm9 F7; replace N7 := News.cast hn9 N7; clear hm9 hn9
    have hi := V.ac0 (as p) e8'
    have ha : acs ls (as p) [r1, r2, r3] = (([r1, r2, r3].take 3).foldl (acGo ls (as p)) ([], 0)).1 ++ (if ahead > 0 then fig (((ls 1 (as p)).1.idxOf 0 : Nat) : Int) (ls 1 (as p)).2 else []) := by rw [hah]; rfl
    rw [ha, ← List.append_assoc] at ret
    have hl3 : vf.length ≤ 80 := hlf
    obtain ⟨xs, DD, rT⟩ := id H
    obtain ⟨kka, tu, sl, vs, tl, nt, nl, eT, eu, es, hints⟩ := rT 1 (as p) (.inr rfl) e8'
    have hln := V.len 1 (as p)
    have hlsy := V.lay 1 (as p)
    have e11 := DictOfH.keeps DD K
    have e12 := K _ _ eu
    have e13 := K _ _ es
    have hi5 := idx_get hi
    have hix : ((((ls 1 (as p)).1.idxOf 0 : Nat)) : Int).natAbs ≤ 2000000 := by
      have q1 := len_ints_list hlsy
      have q2 := List.idxOf_le_length (a := (0 : Int)) (l := (ls 1 (as p)).1)
      (first | lia | omega)
    k_extra "k_steps"
    · rw [if_pos (by assumption)] at ret
      exact ret _ _ _ _ _ (ints_app hvf (by assumption)) (by rw [List.length_append]; (first | lia | omega)) (by k_extra "m step")
    · rw [if_neg (by assumption), List.append_nil] at ret
      exact ret _ (vf ++ []) _ _ _ (by rw [List.append_nil]; exact hvf) (by rw [List.append_nil]; (first | lia | omega)) (by k_extra "m step")
end
end
section
/-- a block: the tuple (place, row), its row -/
structure Blk where
  (t row : Addr) (p : Nat) (tp : Tok) (nr : Nat) (r0 r1 r2 r3 : Int) (v0 v1 v2 v3 : Tok)
def Blk.tup (b : Blk) : Addr × Obj := (b.t, tupOf [.int (b.p : Int) b.tp, .ref b.row] 0)
def Blk.lst (b : Blk) : Addr × Obj := (b.row, listOf #[.int b.r0 b.v0, .int b.r1 b.v1, .int b.r2 b.v2, .int b.r3 b.v3] b.nr)
structure Blk.OK (many : Nat) (b : Blk) : Prop where
  p : b.p < many
  r0 : b.r0.natAbs ≤ 31
  r1 : b.r1.natAbs ≤ 31
  r2 : b.r2.natAbs ≤ 31
  r3 : b.r3.natAbs ≤ 31
def blO (bs : List Blk) : List (Addr × Obj) := bs.flatMap fun b => [b.tup, b.lst]
theorem blO_tup {bs : List Blk} {b : Blk} (h : b ∈ bs) : b.tup ∈ blO bs := List.mem_flatMap.mpr ⟨b, h, .head _⟩
theorem blO_lst {bs : List Blk} {b : Blk} (h : b ∈ bs) : b.lst ∈ blO bs := List.mem_flatMap.mpr ⟨b, h, .tail _ (.head _)⟩
/-- the figures of a block; what is read back -/
def blk (ls : Int → Int → List Int × Nat) (ds as : Nat → Int) (low : Nat) (q : Bool) (b : Blk) : List Int := match q with
  | true => cod ls 0 (ds b.p) 0 (b.r0.fdiv (2 ^ Int.toNat ((low : Nat) : Int)))
  | false => cod ls 0 (ds b.p) 0 b.r0 ++ acs ls (as b.p) [b.r1, b.r2, b.r3]
def rdv (low : Nat) (q : Bool) (b : Blk) : List Int := match q with
  | true => [b.r0.fdiv (2 ^ Int.toNat ((low : Nat) : Int)) * 2 ^ Int.toNat ((low : Nat) : Int), 5, 0, 7]
  | false => [b.r0, b.r1, b.r2, b.r3]
def QOk (q : Bool) (en : Int) (low : Nat) : Prop := match q with
  | true => en = 0 ∧ low ≤ 2
  | false => en = 3 ∧ low = 0
inductive DirW (w : World) (v sc TD : Addr) (many : Nat) (B : List Int) : Bool → List (Addr × Obj) → Prop
  | dc {BB} : DcW w v sc TD many B BB → DirW w v sc TD many B true BB
  | sq {BB} : SqW w v sc TD many B BB → DirW w v sc TD many B false BB
inductive DirR (w : World) (v sc TD : Addr) (many : Nat) : Option (List Int × Nat) → Bool → List (Addr × Obj) → Prop
  | dc0 {BB} : DcR0 w v sc TD many BB → DirR w v sc TD many none true BB
  | sq0 {BB} : SqR0 w v sc TD many BB → DirR w v sc TD many none false BB
  | dc {ks p BB} : DcR w v sc TD many ks p BB → DirR w v sc TD many (some (ks, p)) true BB
  | sq {ks p BB} : SqR w v sc TD many ks p BB → DirR w v sc TD many (some (ks, p)) false BB
/-- writer (the figures that it holds), reader (octets, place), blocks -/
inductive CB (w : World) (v r sc TD : Addr) (many : Nat) (q : Bool) (B : List Int) (rs : Option (List Int × Nat)) (bs : List Blk) : List (Addr × Obj) → Prop
  | mk (WB RB : List (Addr × Obj)) (DW : DirW w v sc TD many B q WB) (DR : DirR w r sc TD many rs q RB) (A1 : Apt (WB.map (·.1)) (RB.map (·.1))) (A2 : Apt (WB.map (·.1)) ((blO bs).map (·.1))) (A3 : Apt (RB.map (·.1)) ((blO bs).map (·.1))) (ok : ∀ b ∈ bs, b.OK many) :
    CB w v r sc TD many q B rs bs (WB ++ (RB ++ blO bs))
theorem Apt.symm {a b : List Nat} (A : Apt a b) : Apt b a := ⟨fun x hx y hy => (A.h y hy x hx).symm⟩
theorem Apt.step {X : Addr} {h h' : Heap} {S S' T : List (Addr × Obj)} (St : Step X h h' S S') (A : Apt (S.map (·.1)) (T.map (·.1))) (hT : ∀ p ∈ T, h.get? p.1 = some p.2) : Apt (S'.map (·.1)) (T.map (·.1)) := ⟨fun x hx y hy e => by
  obtain ⟨p, hp, rfl⟩ := List.mem_map.mp hx
  obtain ⟨z, hz, rfl⟩ := List.mem_map.mp hy
  rcases (St.new p hp).2 with q | q
  · exact A.h _ q _ hy e
  · rw [e, hT z hz] at q; cases q⟩
/-- what stands beside is kept -/
theorem Step.frame {X : Addr} {h h' : Heap} {S S' T l l' : List (Addr × Obj)} (St : Step X h h' S S') (A : Apt (S.map (·.1)) (T.map (·.1))) (hT : ∀ p ∈ T, h.get? p.1 = some p.2) (off : X ∉ l.map (·.1))
    (hs : ∀ p ∈ S, p ∈ l) (ht : ∀ p ∈ T, p ∈ l) (hl : ∀ p ∈ l', p ∈ S' ∨ p ∈ T) : Step X h h' l l' where
  keep := St.keep.more fun x hx => by
    obtain ⟨p, hp, rfl⟩ := List.mem_map.mp hx
    exact List.mem_map_of_mem (hs p hp)
  new := fun p hp => by
    rcases hl p hp with z | z
    · obtain ⟨a, b⟩ := St.new p z
      refine ⟨a, b.imp (fun c => ?_) id⟩
      obtain ⟨p', hp', e⟩ := List.mem_map.mp c
      exact e ▸ List.mem_map_of_mem (hs p' hp')
    · exact ⟨St.keep _ _ (fun c => A.h _ c _ (List.mem_map_of_mem z) rfl) (hT p z), .inl (List.mem_map_of_mem (ht p z))⟩
  off := off
theorem News.off {g h : Heap} {L : Addr} {l : List (Addr × Obj)} (N : News g L h l) : L ∉ l.map (·.1) := fun q => by
  obtain ⟨p, hp, e⟩ := List.mem_map.mp q
  exact (N p hp).2.1 e
theorem Apt.app {a b c : List Nat} (A : Apt a b) (B : Apt a c) : Apt a (b ++ c) := ⟨fun x hx y hy => (List.mem_append.mp hy).elim (A.h x hx y) (B.h x hx y)⟩
theorem apt_app {S T U : List (Addr × Obj)} (A : Apt (S.map (·.1)) (T.map (·.1))) (B : Apt (S.map (·.1)) (U.map (·.1))) : Apt (S.map (·.1)) ((T ++ U).map (·.1)) := by rw [List.map_append]; exact A.app B
section
variable {g h h' : Heap} {X : Addr} {WB WB' RB RB' BL : List (Addr × Obj)}
theorem setW (O : News g X h (WB ++ (RB ++ BL))) (St : Step X h h' WB WB') (A1 : Apt (WB.map (·.1)) (RB.map (·.1))) (A2 : Apt (WB.map (·.1)) (BL.map (·.1))) :
    Step X h h' (WB ++ (RB ++ BL)) (WB' ++ (RB ++ BL)) ∧ Apt (WB'.map (·.1)) (RB.map (·.1)) ∧ Apt (WB'.map (·.1)) (BL.map (·.1)) :=
  ⟨St.frame (T := RB ++ BL) (apt_app A1 A2) (fun p hp => (O p (List.mem_append_right _ hp)).1) (News.off O) (fun _ hp => List.mem_append_left _ hp) (fun _ hp => List.mem_append_right _ hp) fun _ hp => List.mem_append.mp hp,
    Apt.step St A1 fun p hp => (O p (List.mem_append_right _ (List.mem_append_left _ hp))).1, Apt.step St A2 fun p hp => (O p (List.mem_append_right _ (List.mem_append_right _ hp))).1⟩
theorem setR {E : List (Addr × Obj)} (O : News g X h (WB ++ (RB ++ BL))) (St : Step X h h' RB (E ++ RB')) (A1 : Apt (WB.map (·.1)) (RB.map (·.1))) (A3 : Apt (RB.map (·.1)) (BL.map (·.1))) :
    Step X h h' (WB ++ (RB ++ BL)) (E ++ (WB ++ (RB' ++ BL))) ∧ Apt (WB.map (·.1)) (RB'.map (·.1)) ∧ Apt (RB'.map (·.1)) (BL.map (·.1)) := by
  have a1 := Apt.step St A1.symm fun p hp => (O p (List.mem_append_left _ hp)).1
  have a3 := Apt.step St A3 fun p hp => (O p (List.mem_append_right _ (List.mem_append_right _ hp))).1
  rw [List.map_append] at a1 a3
  refine ⟨St.frame (T := WB ++ BL) (apt_app A1.symm A3) (fun p hp => ?_) (News.off O) (fun _ hp => List.mem_append_right _ (List.mem_append_left _ hp)) (fun p hp => ?_) fun p hp => ?_, ⟨fun x hx y hy => (a1.h y (List.mem_append_right _ hy) x hx).symm⟩, ⟨fun x hx => a3.h x (List.mem_append_right _ hx)⟩⟩
  · rcases List.mem_append.mp hp with z | z
    · exact (O p (List.mem_append_left _ z)).1
    · exact (O p (List.mem_append_right _ (List.mem_append_right _ z))).1
  · rcases List.mem_append.mp hp with z | z
    · exact List.mem_append_left _ z
    · exact List.mem_append_right _ (List.mem_append_right _ z)
  · rcases List.mem_append.mp hp with z | z
    · exact .inl (List.mem_append_left _ z)
    · rcases List.mem_append.mp z with z | z
      · exact .inr (List.mem_append_left _ z)
      · rcases List.mem_append.mp z with z | z
        · exact .inl (List.mem_append_right _ z)
        · exact .inr (List.mem_append_right _ z)
theorem inW (O : News g X h (WB ++ (RB ++ BL))) : News g X h WB := News.sub O fun _ hp => List.mem_append_left _ hp
theorem inR (O : News g X h (WB ++ (RB ++ BL))) : News g X h RB := News.sub O fun _ hp => List.mem_append_right _ (List.mem_append_left _ hp)
end
section
variable {w : World} {v r sc TD : Addr} {many : Nat} {q : Bool} {B : List Int} {rs : Option (List Int × Nat)} {bs : List Blk} {l news : List (Addr × Obj)} {b : Blk} {g h : Heap} {X : Addr}
theorem CB.tup (H : CB w v r sc TD many q B rs bs l) (hb : b ∈ bs) : b.tup ∈ l := by
  cases H; exact List.mem_append_right _ (List.mem_append_right _ (blO_tup hb))
theorem CB.lst (H : CB w v r sc TD many q B rs bs l) (hb : b ∈ bs) : b.lst ∈ l := by
  cases H; exact List.mem_append_right _ (List.mem_append_right _ (blO_lst hb))
theorem CB.row (H : CB w v r sc TD many q B rs bs l) (hb : b ∈ bs) (O : News g X h l) : h.get? b.row = some (listOf #[.int b.r0 b.v0, .int b.r1 b.v1, .int b.r2 b.v2, .int b.r3 b.v3] b.nr) := (O _ (H.lst hb)).1
theorem CB.okb (H : CB w v r sc TD many q B rs bs l) (hb : b ∈ bs) : b.OK many := by
  cases H with | mk _ _ _ _ _ _ _ ok => exact ok b hb
end
section
variable {w : World} {dp un : Nat} {fr : Option (List Env)} {gd : Option (List Code)} {h₀ : Heap} {s : Shared} {R : Result → Shared → Prop}
theorem cb_start (C : Stc w h₀) (k : h₀.StaysIn s.heap) {X : Addr}
  {v r sc TD : Addr} {many : Nat} {q : Bool} {B : List Int} {rs : Option (List Int × Nat)} {bs : List Blk} {l : List (Addr × Obj)} {ls : Int → Int → List Int × Nat} {ds as : Nat → Int} {en : Int} {low : Nat} (hd : dp + 4 < recursionLimit) (hu : un + 40 < cLine) (HC : CB w v r sc TD many q B rs bs l) (O : News h₀ X s.heap l) (hsc : ScanAt w h₀ sc many ds as en low)
  (ret : ∀ l' (h' : Heap) (tk' : Nat), CB w v r sc TD many q B rs bs l' → Step X s.heap h' l (l') → R (.ok (.ret .none)) { s with heap := h', toks := tk' }) :
  codeAny (model pw w) (ar dp fr gd un) (.call (.ref 42) ⟨[.ref v], []⟩) R s := by
  obtain ⟨WB, RB, DW, DR, A1, A2, A3, ok⟩ := HC
  cases DW with
  | dc DW => exact dir_start_dc C k hd hu DW hsc (inW O) fun WB' h' tk' DW' St => let ⟨a, a1, a2⟩ := setW O St A1 A2; ret _ _ _ (.mk _ _ (.dc DW') DR a1 a2 A3 ok) a
  | sq DW => exact dir_start_sq C k hd hu DW hsc (inW O) fun WB' h' tk' DW' St => let ⟨a, a1, a2⟩ := setW O St A1 A2; ret _ _ _ (.mk _ _ (.sq DW') DR a1 a2 A3 ok) a
theorem cb_code (C : Stc w h₀) (k : h₀.StaysIn s.heap) {X : Addr}
  {v r sc TD : Addr} {many : Nat} {q : Bool} {B : List Int} {rs : Option (List Int × Nat)} {bs : List Blk} {l : List (Addr × Obj)} {ls : Int → Int → List Int × Nat} {ds as : Nat → Int} {en : Int} {low : Nat} {b : Blk} (hd : dp + 16 < recursionLimit) (hu : un + 200 < cLine) (HC : CB w v r sc TD many q B rs bs l) (O : News h₀ X s.heap l) (H : Tabs w h₀ TD ls) (hl : B.length ≤ 50000) (hb : b ∈ bs) (hsc : ScanAt w h₀ sc many ds as en low) (V : Cover ls)
  (ret : ∀ l' (h' : Heap) (tk' : Nat), CB w v r sc TD many q (B ++ blk ls ds as low q b) rs bs l' → Step X s.heap h' l (l') → R (.ok (.ret .none)) { s with heap := h', toks := tk' }) :
  codeC (model pw w) (ar dp fr gd un) (.call (.ref 49) ⟨[.ref v, .int (b.p : Int) b.tp, .ref b.row], []⟩) R s := by
  obtain ⟨WB, RB, DW, DR, A1, A2, A3, ok⟩ := HC
  have o := ok b hb
  have hrow : s.heap.get? b.row = _ := (O _ (List.mem_append_right _ (List.mem_append_right _ (blO_lst hb)))).1
  have nrow : NqL b.row (WB.map (·.1)) := A2.r (List.mem_map_of_mem (blO_lst hb))
  cases DW with
  | dc DW => exact dir_code_dc C k hd hu DW H hl hrow nrow hsc o.p V o.r0 (inW O) fun WB' h' tk' DW' St => let ⟨a, a1, a2⟩ := setW O St A1 A2; ret _ _ _ (.mk _ _ (.dc DW') DR a1 a2 A3 ok) a
  | sq DW => exact dir_code_sq C k hd hu DW H hl hrow nrow hsc o.p V o.r0 o.r1 o.r2 o.r3 (inW O) fun WB' h' tk' DW' St => let ⟨a, a1, a2⟩ := setW O St A1 A2; ret _ _ _ (.mk _ _ (.sq DW') DR a1 a2 A3 ok) a
theorem cb_finish (C : Stc w h₀) (k : h₀.StaysIn s.heap) {X : Addr}
  {v r sc TD : Addr} {many : Nat} {q : Bool} {B : List Int} {rs : Option (List Int × Nat)} {bs : List Blk} {l : List (Addr × Obj)} (hd : dp + 14 < recursionLimit) (hu : un + 180 < cLine) (HC : CB w v r sc TD many q B rs bs l) (O : News h₀ X s.heap l) (hl : B.length ≤ 80000)
  (ret : ∀ F tb l' (h' : Heap) (tk' : Nat), octs F = padded B → Oct F → CB w v r sc TD many q [] rs bs l' → Step X s.heap h' l (l') → R (.ok (.ret (.bytes (byteArr F) tb))) { s with heap := h', toks := tk' }) :
  codeC (model pw w) (ar dp fr gd un) (.call (.ref 56) ⟨[.ref v], []⟩) R s := by
  obtain ⟨WB, RB, DW, DR, A1, A2, A3, ok⟩ := HC
  cases DW with
  | dc DW => exact dir_finish_dc C k hd hu DW hl (inW O) fun F tb WB' h' tk' e1 e2 DW' St => let ⟨a, a1, a2⟩ := setW O St A1 A2; ret _ _ _ _ _ e1 e2 (.mk _ _ (.dc DW') DR a1 a2 A3 ok) a
  | sq DW => exact dir_finish_sq C k hd hu DW hl (inW O) fun F tb WB' h' tk' e1 e2 DW' St => let ⟨a, a1, a2⟩ := setW O St A1 A2; ret _ _ _ _ _ e1 e2 (.mk _ _ (.sq DW') DR a1 a2 A3 ok) a
theorem cb_rstart (C : Stc w h₀) (k : h₀.StaysIn s.heap) {X : Addr}
  {v r sc TD : Addr} {many : Nat} {q : Bool} {B : List Int} {bs : List Blk} {l : List (Addr × Obj)} {ds as : Nat → Int} {en : Int} {low : Nat} {ks : List Int} {ba : Array UInt8} {tb : Tok} (hd : dp + 10 < recursionLimit) (hu : un + 90 < cLine) (HC : CB w v r sc TD many q B none bs l) (O : News h₀ X s.heap l) (hsc : ScanAt w h₀ sc many ds as en low) (hks : KBw.bInts ba = ks)
  (ret : ∀ l' (h' : Heap) (tk' : Nat), CB w v r sc TD many q B (some (ks, 0)) bs l' → Step X s.heap h' l (l') → R (.ok (.ret .none)) { s with heap := h', toks := tk' }) :
  codeAny (model pw w) (ar dp fr gd un) (.call (.ref 84) ⟨[.ref r, .bytes ba tb], []⟩) R s := by
  obtain ⟨WB, RB, DW, DR, A1, A2, A3, ok⟩ := HC
  cases DR with
  | dc0 DR => exact dir_rstart_dc C k hd hu DR hsc hks (inR O) fun RB' h' tk' DR' St => let ⟨a, a1, a3⟩ := setR (E := []) O St A1 A3; ret _ _ _ (.mk _ _ DW (.dc DR') a1 A2 a3 ok) a
  | sq0 DR => exact dir_rstart_sq C k hd hu DR hsc hks (inR O) fun RB' h' tk' DR' St => let ⟨a, a1, a3⟩ := setR (E := []) O St A1 A3; ret _ _ _ (.mk _ _ DW (.sq DR') a1 A2 a3 ok) a
theorem cb_rread (C : Stc w h₀) (k : h₀.StaysIn s.heap) {X : Addr}
  {v r sc TD : Addr} {many : Nat} {q : Bool} {B : List Int} {bs : List Blk} {l : List (Addr × Obj)} {ls : Int → Int → List Int × Nat} {ds as : Nat → Int} {en : Int} {low : Nat} {b : Blk} {ks rest : List Int} {p0 : Nat} {held : Addr} {w0 w1 w2 w3 : Tok} {nh : Nat} (hd : dp + 16 < recursionLimit) (hu : un + 200 < cLine) (HC : CB w v r sc TD many q B (some (ks, p0)) bs l) (O : News h₀ X s.heap l) (hsz : ks.length ≤ 100000) (hp0 : p0 ≤ 8 * ks.length) (H : Tabs w h₀ TD ls) (hb : b ∈ bs) (hh : s.heap.get? held = some (listOf #[.int 99 w0, .int 5 w1, .int 0 w2, .int 7 w3] nh)) (nh : NqL held (l.map (·.1))) (hsc : ScanAt w h₀ sc many ds as en low) (V : Cover ls) (hq : QOk q en low) (hc : (octs ks).drop p0 = blk ls ds as low q b ++ rest)
  (ret : ∀ D vals n1 l' (h' : Heap) (tk' : Nat), IntsAre vals (rdv low q b) → CB w v r sc TD many q B (some (ks, p0 + (blk ls ds as low q b).length)) bs l' → Step X s.heap h' l ((D, listOf (List.toArray vals) n1) :: l') → R (.ok (.ret (.ref D))) { s with heap := h', toks := tk' }) :
  codeAny (model pw w) (ar dp fr gd un) (.call (.ref 91) ⟨[.ref r, .int (b.p : Int) b.tp, .ref held], []⟩) R s := by
  obtain ⟨WB, RB, DW, DR, A1, A2, A3, ok⟩ := HC
  have o := ok b hb
  have nrow : NqL held (RB.map (·.1)) := ⟨fun a ha => nh.h a (by simp only [List.map_append, List.mem_append]; exact .inr (.inl ha))⟩
  cases DR with
  | dc DR => exact dir_read_dc C k (Nat.lt_of_le_of_lt (Nat.add_le_add_left (by decide) _) hd) (Nat.lt_of_le_of_lt (Nat.add_le_add_left (by decide) _) hu) DR hsz hp0 H hh nrow hsc o.p V hq.2 (fdiv_small o.r0) hc (inR O) fun D u0 u1 u2 u3 n1 RB' h' tk' DR' St => let ⟨a, a1, a3⟩ := setR (E := [_]) O St A1 A3; ret D [.int _ u0, .int _ u1, .int _ u2, .int _ u3] n1 _ _ _ (.cons _ _ (.cons _ _ (.cons _ _ (.cons _ _ .nil)))) (.mk _ _ DW (.dc DR') a1 A2 a3 ok) a
  | sq DR => exact dir_read_sq C k hd hu DR hsz hp0 H hsc o.p V hc o.r0 o.r1 o.r2 o.r3 (inR O) fun D vals n1 RB' h' tk' hv DR' St => let ⟨a, a1, a3⟩ := setR (E := [_]) O St A1 A3; ret D vals n1 _ _ _ hv (.mk _ _ DW (.sq DR') a1 A2 a3 ok) a
theorem cb_rfinish (C : Stc w h₀) (k : h₀.StaysIn s.heap) {X : Addr}
  {v r sc TD : Addr} {many : Nat} {q : Bool} {B : List Int} {bs : List Blk} {l : List (Addr × Obj)} {ks : List Int} {p0 : Nat} (hd : dp + 10 < recursionLimit) (hu : un + 100 < cLine) (HC : CB w v r sc TD many q B (some (ks, p0)) bs l) (O : News h₀ X s.heap l) (hsz : ks.length ≤ 100000) (hp0 : p0 ≤ 8 * ks.length) (hp7 : 8 * ks.length ≤ p0 + 7)
  (ret : ∀ l' (h' : Heap) (tk' : Nat), CB w v r sc TD many q B none bs l' → Step X s.heap h' l (l') → R (.ok (.ret .none)) { s with heap := h', toks := tk' }) :
  codeAny (model pw w) (ar dp fr gd un) (.call (.ref 98) ⟨[.ref r], []⟩) R s := by
  obtain ⟨WB, RB, DW, DR, A1, A2, A3, ok⟩ := HC
  cases DR with
  | dc DR => exact dir_rfinish_dc C k hd hu DR hsz hp0 hp7 (inR O) fun RB' h' tk' DR' St => let ⟨a, a1, a3⟩ := setR (E := []) O St A1 A3; ret _ _ _ (.mk _ _ DW (.dc0 DR') a1 A2 a3 ok) a
  | sq DR => exact dir_rfinish_sq C k hd hu DR hsz hp0 hp7 (inR O) fun RB' h' tk' DR' St => let ⟨a, a1, a3⟩ := setR (E := []) O St A1 A3; ret _ _ _ (.mk _ _ DW (.sq0 DR') a1 A2 a3 ok) a
theorem lblock (C : Stc w h₀) (k : h₀.StaysIn s.heap) {X : Addr}
  {LD sc : Addr} {many : Nat} {q : Bool} {ls : Int → Int → List Int × Nat} {ds as : Nat → Int} {en : Int} {low : Nat} {b : Blk} (hd : dp + 10 < recursionLimit) (hu : un + 120 < cLine) (hrow : s.heap.get? b.row = some (listOf #[.int b.r0 b.v0, .int b.r1 b.v1, .int b.r2 b.v2, .int b.r3 b.v3] b.nr)) (o : b.OK many) (H : Lsts w h₀ LD ls) (V : Cover ls) (hsc : ScanAt w h₀ sc many ds as en low) (hq : QOk q en low) (O : News h₀ X s.heap [])
  (ret : ∀ D vals n1 (h' : Heap) (tk' : Nat), IntsAre vals (blk ls ds as low q b) → vals.length ≤ 100 → Step X s.heap h' [] [(D, listOf (List.toArray vals) n1)] → R (.ok (.ret (.ref D))) { s with heap := h', toks := tk' }) :
  codeAny (model pw w) (ar dp fr gd un) (.call (.ref 629) ⟨[.ref LD, .ref sc, .int (b.p : Int) b.tp, .ref b.row], []⟩) R s := by
  cases q with
  | true => exact lblock_dc C k hd hu O H V hsc hrow o.p o.r0 hq.1 hq.2 ret
  | false => exact lblock_sq C k hd hu O H V hsc hrow o.p o.r0 hq.1 hq.2 o.r1 o.r2 o.r3 ret
end
end

theorem words_of_Q1 : True := by
  k_with "codeAny" => (((with_reducible show codeAny _ _ (Code.call (Value.ref 42) _) _ _); k_dflt (refine' cb_start (by assumption) (by k_extra "m stay") (by k_extra "m room") (by k_extra "m room") (by with_reducible assumption) (by k_extra "m own") (by assumption) ?_); intros; k_extra "m upS"))
  k_with "codeC" => (((with_reducible show codeC _ _ (Code.call (Value.ref 49) _) _ _); k_dflt (refine' cb_code (by assumption) (by k_extra "m stay") (by k_extra "m room") (by k_extra "m room") (by with_reducible assumption) (by k_extra "m own") (by assumption) (by first | assumption | omega) (by assumption) (by assumption) (by assumption) ?_); intros; k_extra "m upS"))
  k_with "codeC" => (((with_reducible show codeC _ _ (Code.call (Value.ref 56) _) _ _); k_dflt (refine' cb_finish (by assumption) (by k_extra "m stay") (by k_extra "m room") (by k_extra "m room") (by with_reducible assumption) (by k_extra "m own") (by first | assumption | omega) ?_); intros; k_extra "m upS"))
  k_with "codeAny" => (((with_reducible show codeAny _ _ (Code.call (Value.ref 84) _) _ _); k_dflt (refine' cb_rstart (by assumption) (by k_extra "m stay") (by k_extra "m room") (by k_extra "m room") (by with_reducible assumption) (by k_extra "m own") (by assumption) (by assumption) ?_); intros; k_extra "m upS"))
  k_with "codeAny" => (((with_reducible show codeAny _ _ (Code.call (Value.ref 91) _) _ _); k_dflt (refine' cb_rread (by assumption) (by k_extra "m stay") (by k_extra "m room") (by k_extra "m room") (by with_reducible assumption) (by k_extra "m own") (by first | assumption | omega) (by first | assumption | omega) (by assumption) (by assumption) (by k_extra "m rd") (by k_extra "m nqt") (by assumption) (by assumption) (by assumption) (by assumption) ?_); intros; k_extra "m upS"))
  k_with "codeAny" => (((with_reducible show codeAny _ _ (Code.call (Value.ref 98) _) _ _); k_dflt (refine' cb_rfinish (by assumption) (by k_extra "m stay") (by k_extra "m room") (by k_extra "m room") (by with_reducible assumption) (by k_extra "m own") (by first | assumption | omega) (by first | assumption | omega) (by first | assumption | omega) ?_); intros; k_extra "m upS"))
  k_with "codeAny" => (((with_reducible show codeAny _ _ (Code.call (Value.ref 629) _) _ _); k_dflt (refine' lblock (by assumption) (by k_extra "m stay") (by k_extra "m room") (by k_extra "m room") (by with_reducible assumption) (by assumption) (by assumption) (by assumption) (by assumption) (by assumption) (by k_extra "m own") ?_); intros; k_extra "m upS"))
  exact trivial
section
namespace G_H3
theorem in_H3 : True := trivial
end G_H3
open G_H3
def Holds (l : List (Addr × Obj)) (h : Heap) : Prop := ∀ p ∈ l, h.get? p.1 = some p.2
/-- codes, j of them, their tuples lie in TL -/
structure Cds (ln : Nat) (syms : List Int) (j : Nat) (kvs : List (Int × Value)) (TL : List (Addr × Obj)) : Prop where
  keys : kvs.map (·.1) = syms.take j
  le : j ≤ syms.length
  val : ∀ i, i < j → ∃ v r t1 t2, kvs[i]? = some (v, .ref r) ∧ (r, tupOf [.int (i : Int) t1, .int (ln : Int) t2] 0) ∈ TL
theorem Cds.len {ln j : Nat} {syms : List Int} {kvs : List (Int × Value)} {TL : List (Addr × Obj)} (C : Cds ln syms j kvs TL) : kvs.length = j := by
  have := congrArg List.length C.keys
  rw [List.length_map, List.length_take] at this
  have := C.le; (first | lia | omega)
theorem Cds.snoc {ln j : Nat} {syms : List Int} {kvs : List (Int × Value)} {TL : List (Addr × Obj)} {c : Int} {r : Addr} {t1 t2 : Tok} (C : Cds ln syms j kvs TL) (hc : syms[j]? = some c) : Cds ln syms (j + 1) (kvs ++ [(c, .ref r)]) ((r, tupOf [.int (j : Int) t1, .int (ln : Int) t2] 0) :: TL) where
  keys := by rw [List.map_append, C.keys, List.take_add_one, hc]; rfl
  le := (List.getElem?_eq_some_iff.mp hc).1
  val := fun i hi => by
    rcases Nat.lt_or_ge i j with h | h
    · obtain ⟨v, r', a1, a2, e1, e2⟩ := C.val i h
      exact ⟨v, r', a1, a2, by rw [List.getElem?_append_left (by rw [C.len]; exact h)]; exact e1, .tail _ e2⟩
    · obtain rfl : i = j := by (first | lia | omega)
      exact ⟨c, r, t1, t2, by rw [List.getElem?_append_right (by rw [C.len]; exact Nat.le_refl _), C.len, Nat.sub_self]; rfl, .head _⟩
theorem Rws.more {n ln j : Nat} {vals : List Value} {TL : List (Addr × Obj)} {p : Addr × Obj} (R : Rws n ln j vals TL) : Rws n ln j vals (p :: TL) := ⟨R.len, fun i hi => by
  obtain ⟨r, c, p, t1, t2, t3, e1, e2, e3⟩ := R.row i hi
  exact ⟨r, c, p, t1, t2, t3, e1, .tail _ e2, e3⟩⟩
theorem fresh_key {l : List Int} (h : l.Nodup) {j : Nat} {c : Int} {kvs : List (Int × Value)} (hk : kvs.map (·.1) = l.take j) (e : l[j]? = some c) : kvs.any (fun kv => decide (kv.1 = c)) = false := by
  have n := not_before h e
  rw [← hk] at n
  rw [Bool.eq_false_iff]
  intro q
  obtain ⟨x, hx, e⟩ := List.any_eq_true.mp q
  exact n (List.mem_map.mpr ⟨x, hx, of_decide_eq_true e⟩)
section
variable {w : World} {A : Around} {E : Value → Shared → Prop} {s : Shared} {g : Heap} {L : Addr} {m : Str → Option Value} {news : List (Addr × Obj)}
theorem put_int {cd : Addr} {od : Obj} {gg : Obj → List (Addr × Obj)} {kvs : List (Int × Value)} {c : Int} {t : Tok} {v : Value} {Q : Unit → Shared → Prop} (F : Fr g L s.heap m) (N : News g L s.heap news) (U : UpdF cd od news gg) (hd : od.IsDictOf (intKind pw w) kvs) (hl : kvs.length ≤ 1000) (hk : kvs.any (fun kv => decide (kv.1 = c)) = false)
    (h : ∀ h' o' tk, Fr g L h' m → News g L h' (gg o') → o'.IsDictOf (intKind pw w) (kvs ++ [(c, v)]) → Q () { s with heap := h', toks := tk }) :
    wpAny (model pw w) A (setItem (.ref cd) (.int c t) v) Q E s := by
  obtain ⟨p, q, e, _, _, _⟩ := U.split
  have hc := (N (cd, od) (by rw [e]; simp)).1
  refine wpAny_setItem_pairs (intKind_is pw w c t) (Heap.dictOf_iff.mpr ⟨od, hc, hd⟩) (fun h' hm hs => ?_) (by rw [sizeLine_eq]; (first | lia | omega))
  obtain ⟨o', ho', hd'⟩ := Heap.dictOf_iff.mp hm
  obtain ⟨F', N'⟩ := upd1 F N U (fun b o hb e => (hs.2 b fun q => hb (by rw [q]; exact .head _)).trans e) ho'
  rw [stored, if_neg (by rw [hk]; exact fun z => nomatch z)] at hd'
  exact h h' o' _ F' N' hd'
theorem tuple_N {l : Addr} {vs : List Value} {k : Nat} {Q : Value → Shared → Prop} (F : Fr g L s.heap m) (N : News g L s.heap news) (hl : s.heap.IsList l vs.toArray) (hz : vs.length ≤ 1000)
    (h : ∀ D h', Fr g L h' m → News g L h' ((D, tupOf vs 0) :: news) → (∀ p ∈ news, p.1 < D) → Q (.ref D) { s with heap := h' }) : wpAny (model pw w) A (call (.type "tuple") [.ref l]) Q E s :=
  kde_tupleOf F N hl (by rw [List.size_toArray]; (first | lia | omega)) (by simp) h
theorem lst_itemM {value slice : Expr} {t : Addr} {vs : List Value} {n : Nat} {k : Int} {u : Tok} {j : Nat} {x : Value} {Q : Value → Shared → Prop} (N : News g L s.heap news) (hm : (t, listOf vs.toArray n) ∈ news) (hx : vs[j]? = some x) (hk : k = (j : Int)) (hj : j < 1000000) (h : Q x s)
    (hs : subscripted slice false (.ref t) (.int k u) = operate [.ref t, .int k u] (getItem (.ref t) (.int k u)) := by with_unfolding_all rfl) :
    wpAny (model pw w) A (subscriptTail value slice (.ref t) (.int k u)) Q E s := by
  subst hk
  have hl := News.isList N hm
  exact tail_any hl.typeIs slot_list_getitem.lookup (wpAny_getItem_list hl (Int.natCast_nonneg j) (by (first | lia | omega)) (by simpa using hx) h) hs
theorem tup_itemM {value slice : Expr} {t : Addr} {vs : List Value} {n : Nat} {k : Int} {u : Tok} {j : Nat} {x : Value} {Q : Value → Shared → Prop} (N : News g L s.heap news) (hm : (t, tupOf vs n) ∈ news) (hx : vs[j]? = some x) (hk : k = (j : Int)) (hj : j < 1000000) (h : Q x s)
    (hs : subscripted slice false (.ref t) (.int k u) = operate [.ref t, .int k u] (getItem (.ref t) (.int k u)) := by with_unfolding_all rfl) :
    wpAny (model pw w) A (subscriptTail value slice (.ref t) (.int k u)) Q E s := by
  have hl : j < vs.length := (List.getElem?_eq_some_iff.mp hx).1
  have ht : IsTup s.heap t vs.toArray := ⟨_, (N _ hm).1, rfl, n, rfl⟩
  refine item_tupleT ht (by (first | lia | omega)) (by (first | lia | omega)) (j := j) ?_ hx h hs
  subst hk
  unfold seqIndex?
  simp only [Int.natCast_nonneg, Int.not_lt.mpr, if_false]
  simp [hl]
end
theorem tup_news {g h : Heap} {L t : Addr} {news : List (Addr × Obj)} {vs : List Value} {n : Nat} (N : News g L h news) (hm : (t, tupOf vs n) ∈ news) : IsTup h t vs.toArray := ⟨_, (N _ hm).1, rfl, n, rfl⟩
theorem tbl_of {w : World} {h : Heap} {x d T1 T2 RD CD : Addr} {od : Obj} {svs vals : List Value} {nr ln : Nat} {syms : List Int} {kvs : List (Int × Value)} {TL : List (Addr × Obj)} {k1 k2 k3 k4 : Tok} (hh : Holds ((CD, od) :: (T2, tupOf svs 0) :: (x, instObj 218 d) :: (d, tblD w (.ref T1) T2 RD CD k1 k2 k3 k4) :: (RD, listOf (List.toArray vals) nr) :: TL) h)
    (lo : (CD == sysModules) = false) (hd : od.IsDictOf (intKind pw w) kvs) (hC : Cds ln syms syms.length kvs TL) (hR : Rws syms.length ln 16 vals TL) (hs : IntsAre svs syms) (hnd : syms.Nodup) (hln : 0 < ln ∧ ln ≤ 16) (hf : syms.length < 2 ^ ln) : Tbl w h x syms ln := by
  have hTL : ∀ p ∈ TL, h.get? p.1 = some p.2 := fun p hp => hh p (.tail _ (.tail _ (.tail _ (.tail _ (.tail _ hp)))))
  refine ⟨d, T2, RD, CD, .ref T1, k1, k2, k3, k4, svs, vals, 0, nr, valueAt kvs, hh _ (.tail _ (.tail _ (.head _))), hh _ (.tail _ (.tail _ (.tail _ (.head _)))), hh _ (.tail _ (.head _)), hs.length, fun i v hi => ?_, hh _ (.tail _ (.tail _ (.tail _ (.tail _ (.head _))))), fun i hi => ?_, ⟨hln.1, hln.2, by rw [hR.len]; exact hln.2⟩, (Heap.dictOf_iff.mpr ⟨od, hh _ (.head _), hd⟩).mapOf, lo, fun i v hi => ?_, hf⟩
  · have hl := (List.getElem?_eq_some_iff.mp hi).1
    have hl2 : i < svs.length := by rw [hs.length]; exact hl
    obtain ⟨c, t, e, e2⟩ := hs.at i _ (List.getElem?_eq_getElem hl2)
    rw [hi] at e2; cases e2
    exact ⟨t, by rw [List.getElem?_eq_getElem hl2, e]⟩
  · obtain ⟨r, c, p, t1, t2, t3, e1, e2, e3⟩ := hR.row i (by (first | lia | omega))
    obtain ⟨rfl, rfl⟩ := e3 hi
    exact ⟨r, t1, t2, t3, 0, e1, hTL _ e2⟩
  · have hl := (List.getElem?_eq_some_iff.mp hi).1
    obtain ⟨v', r, t1, t2, e1, e2⟩ := hC.val i hl
    have e3 : (kvs.map (·.1))[i]? = some v' := by rw [List.getElem?_map, e1]; rfl
    rw [hC.keys, List.take_length, hi] at e3
    cases e3
    exact ⟨r, t1, t2, 0, valueAt_of_get (by rw [hC.keys, List.take_length]; exact hnd) e1, hTL _ e2⟩
theorem mm_of (n ln i : Nat) : ∃ mm : Nat, (if i + 1 = ln then (n : Int) else 0) = (mm : Int) ∧ (if i < ln then 0 else n) + mm = (if i + 1 < ln then 0 else n) ∧ (mm = 0 ∨ (i + 1 = ln ∧ mm = n)) := by
  by_cases h : i + 1 = ln
  · exact ⟨n, if_pos h, by rw [if_pos (by (first | lia | omega)), if_neg (by (first | lia | omega))]; (first | lia | omega), .inr ⟨h, rfl⟩⟩
  · refine ⟨0, if_neg h, ?_, .inl rfl⟩
    by_cases h2 : i < ln
    · rw [if_pos h2, if_pos (by (first | lia | omega))]
    · rw [if_neg h2, if_neg (by (first | lia | omega))]; rfl
theorem line_61 : True := by
  k_with "call type:tuple" => (guard_expr in_H3 =~ in_H3; (k_here; (with_reducible show wpAny _ _ (call (Value.type _) [Value.ref _]) _ _ _); k_dflt (refine' tuple_N (k := 0) (by k_asm) (by k_asm) (by first | exact lst_base (by k_asm) (by with_reducible assumption) | exact News.isList (by k_asm) (by k_mem)) (by (first | lia | omega)) ?_); intro kzD kzh kzF kzN kz1; (try k_lt kz1); (try k_sweep)))
  exact trivial
theorem line_62 : True := by
  k_with "setItem ref int ref" => (guard_expr in_H3 =~ in_H3; (k_here; k_dflt (refine' put_int (by k_asm) (by k_asm) (by k_updF) (by assumption) (by assumption) (by assumption) ?_); intro kzh kzo kzt kzF kzN kzIs; (try dsimp only at kzN)))
  exact trivial
theorem line_63 : True := by
  k_with "m mt" => (guard_expr in_H3 =~ in_H3; first | assumption | exact List.Mem.tail _ (by k_extra "m mt"))
  exact trivial
theorem line_64 : True := by
  k_with "assign Tuple" => (guard_expr in_H3 =~ in_H3; (k_here; (with_reducible show wpAny _ _ (assign (Expr.Tuple _ _ _) _ (Value.ref _)) _ _ _); k_dflt (refine' unpackN_ (by k_asm) (by k_asm) (by exact tup_news (by k_asm) (by k_extra "m mt")) (by exact rfl) (by exact rfl) (by exact rfl) ?_); intro kzh kzF kzN; (try k_sweep)))
  exact trivial
theorem line_65 : True := by
  k_with "subscriptTail" => (guard_expr in_H3 =~ in_H3; (k_here; (with_reducible show wpAny _ _ (subscriptTail _ _ (Value.ref _) (Value.int _ _)) _ _ _); k_dflt (refine' lst_itemM (by k_asm) (by k_mem) (by assumption) (by (first | lia | omega)) (by (first | lia | omega)) ?_)))
  exact trivial
theorem line_66 : True := by
  k_with "subscriptTail" => (guard_expr in_H3 =~ in_H3; (k_here; (with_reducible show wpAny _ _ (subscriptTail _ _ (Value.ref _) (Value.int _ _)) _ _ _); k_dflt (refine' tup_itemM (by k_asm) (by k_mem) (by assumption) (by (first | lia | omega)) (by (first | lia | omega)) ?_)))
  exact trivial
theorem line_67 : True := by
  k_with "binaryOp Add int int" => (guard_expr in_H3 =~ in_H3; (k_here; (with_reducible refine add_as (Int.zero_add _) ?_)))
  exact trivial
section
variable {w : World} {dp un : Nat} {fr : Option (List Env)} {gd : Option (List Code)} {h₀ : Heap} {s : Shared} {R : Result → Shared → Prop}
theorem ht_init (C : Stc w h₀) (k : h₀.StaysIn s.heap) {X : Addr}
  {x d cn sy : Addr} {cvs svs : List Value} {syms : List Int} {ln kc ks : Nat} (hd : dp + 8 < recursionLimit) (hu : un + 80 < cLine) (O : News h₀ X s.heap ([(x, instObj 218 d), (d, dictOf [] 0), (cn, listOf (List.toArray cvs) kc)])) (n9 : Nq x d) (hc : IntsAre cvs (cnt syms.length ln)) (hln : 0 < ln ∧ ln ≤ 16) (hsy : s.heap.get? sy = some (listOf (List.toArray svs) ks)) (nsy : NqL sy [x, d, cn]) (hs : IntsAre svs syms) (hnd : syms.Nodup) (hl : syms.length ≤ 16) (hf : syms.length < 2 ^ ln)
  (ret : ∀ TT (h' : Heap) (tk' : Nat), (∀ h, Holds TT h → Tbl w h x syms ln) → Step X s.heap h' ([(x, instObj 218 d), (d, dictOf [] 0), (cn, listOf (List.toArray cvs) kc)]) (TT) → R (.ok (.ret .none)) { s with heap := h', toks := tk' }) :
  codeAny (model pw w) (ar dp fr gd un) (.call (.ref 201) ⟨[.ref x, .ref cn, .ref sy], []⟩) R s := by
  refine' begin ([(x, instObj 218 d), (d, dictOf [] 0), (cn, listOf (List.toArray cvs) kc)]) [(Str.ofString "self", .ref x), (Str.ofString "counts", .ref cn), (Str.ofString "symbols", .ref sy)] (st := sub 15 0) C k (News.ent O) ?ho ?he ?hcd ?hroom ?hbind ?hsc ?_
  case ho => k_is
  case he => exact rfl
  case hcd => k_is
  case hroom => exact lt_of_add hd
  case hbind => exact rfl
  case hsc => exact rfl
  have e4 : cvs.length = 16 := by rw [hc.length, cnt_len]
  have e5 : svs.length = syms.length := hs.length
  intro g L h₁ mean mg mb tk F N X₁ T₁ En C' K
  have e6 := En.ro nsy hsy
  k_extra "k_steps"
  have kzD := ()
  rename Fr _ _ _ _ => F5; rename News _ _ _ _ => N5
  rename_i T1 _ _ _ _ T2 _ _ RD vals nr TL _ _ hR _ _ CD _ od lo8 _ _ hd8 _ l8 _
  obtain ⟨k1, k2, k3, k4, N6⟩ : ∃ k1 k2 k3 k4, News g L _ ((CD, od) :: (T2, tupOf svs 0) :: (x, instObj 218 d) :: (d, tblD w (.ref T1) T2 RD CD k1 k2 k3 k4) :: (RD, listOf (List.toArray vals) nr) :: TL) := ⟨_, _, _, _, News.sub N5 (by k_extra "m sb")⟩
  have nC1 : Nq CD T2 := l8.hd.symm
  have nC2 : Nq CD x := l8.tl.tl.tl.hd.symm
  have nC3 : Nq CD d := l8.tl.tl.tl.tl.hd.symm
  have nC4 : Nq CD RD := l8.tl.tl.tl.tl.tl.hd.symm
  have nCT : NqL CD (TL.map (·.1)) := l8.tl.tl.tl.tl.tl.tl
  clear l8
  clear N5
  k_extra "m for"
  k_extra "k_steps"
  rename IsRange _ _ _ _ _ _ _ _ => mR; rename Fr _ _ _ _ => F7; rename News _ _ _ _ => N7
  refine' for_range (n := 16) (fun i m news => ∃ TL' kvs od' u1 u2 u3 u4 u5, m = (fun y => if y = Str.ofString "k" then u1 else if y = Str.ofString "first" then u2 else if y = Str.ofString "many" then u3 else if y = Str.ofString "place" then u4 else if y = Str.ofString "size" then u5 else List.lookup y [(Str.ofString "self", Value.ref x), (Str.ofString "counts", Value.ref cn), (Str.ofString "symbols", Value.ref sy)].reverse)
    ∧ news = (CD, od') :: (T2, tupOf svs 0) :: (x, instObj 218 d) :: (d, tblD w (.ref T1) T2 RD CD k1 k2 k3 k4) :: (RD, listOf (List.toArray vals) nr) :: TL' ∧ od'.IsDictOf (intKind pw w) kvs ∧ Cds ln syms (if i < ln then 0 else syms.length) kvs TL' ∧ Rws syms.length ln 16 vals TL' ∧ NqL CD (TL'.map (·.1))) (by rfl) mR (by decide) (by decide) F7 N7 ?h0 ?turn ?done
  case h0 => exact mk8 (a3 := none) (a4 := none) (a5 := none) (a6 := none) (a7 := none) ⟨by k_extra "m map", rfl, hd8, by rw [if_pos hln.1]; exact ⟨rfl, Nat.zero_le _, fun i hi => absurd hi (Nat.not_lt_zero i)⟩, hR, nCT⟩
  case turn =>
    clear hR nCT hd8 N7
    intro I i t m news h tk o lI hi hJ hI F₁ N₁
    (with_reducible refine ex8 hJ ?_); clear hJ; intro TL' kvs od' u1 u2 u3 u4 u5 hJ
    (with_reducible refine conj6 hJ ?_); clear hJ; intro hm9 hn9 hd9 hC hR nCT
    replace F₁ := Fr.castR hm9 F₁; replace N₁ := News.castT hn9 N₁; rw [hn9] at hI; replace hI := NqL.ofne hI; dsimp only [List.map] at hI; clear hm9 hn9
    have nI1 : Nq CD I := hI.hd
    have nI2 : Nq T2 I := hI.tl.hd
    have nI3 : Nq x I := hI.tl.tl.hd
    have nI4 : Nq d I := hI.tl.tl.tl.hd
    have nI5 : Nq RD I := hI.tl.tl.tl.tl.hd
    obtain ⟨r, c, p, t1, t2, t3, hv, hr, h0⟩ := hR.row i hi
    obtain ⟨mm, hm, hm2, hm3⟩ := mm_of syms.length ln i
    rw [hm] at hr
    have hm16 : mm ≤ 1000000 := by (first | lia | omega)
    k_lt lI
    k_extra "k_steps"
    k_extra "m for"
    k_extra "k_steps"
    rename IsRange _ _ _ _ _ _ _ _ => mR2; rename Fr _ _ _ _ => F8; rename News _ _ _ _ => N8
    refine' for_range (n := mm) (fun j m news => ∃ TL' kvs od' u1, m = (fun y => if y = Str.ofString "k" then u1 else if y = Str.ofString "first" then some (.int c t1) else if y = Str.ofString "many" then some (.int (mm : Int) t2) else if y = Str.ofString "place" then some (.int p t3) else if y = Str.ofString "size" then some (.int (1 + (i : Int)) t) else List.lookup y [(Str.ofString "self", Value.ref x), (Str.ofString "counts", Value.ref cn), (Str.ofString "symbols", Value.ref sy)].reverse)
      ∧ news = (I, o) :: (CD, od') :: (T2, tupOf svs 0) :: (x, instObj 218 d) :: (d, tblD w (.ref T1) T2 RD CD k1 k2 k3 k4) :: (RD, listOf (List.toArray vals) nr) :: TL' ∧ od'.IsDictOf (intKind pw w) kvs ∧ Cds ln syms ((if i < ln then 0 else syms.length) + j) kvs TL' ∧ Rws syms.length ln 16 vals TL' ∧ NqL CD (TL'.map (·.1)) ∧ NqL I (TL'.map (·.1))) (by rfl) mR2 (rsmall hm16) (rsize mm) F8 N8 ?zh0 ?zturn ?zdone
    case zh0 => exact mk4 ⟨by k_extra "m map", rfl, hd9, hC, hR, nCT, by k_extra "m nqt"⟩
    case zturn =>
      clear hC hR hd9 N8 nCT
      intro I2 j t' m news h tk o2 lI2 hj hJ hI2 F₁ N₁
      (with_reducible refine ex4 hJ ?_); clear hJ; intro TL' kvs od' u1 hJ
      (with_reducible refine conj7 hJ ?_); clear hJ; intro hm9 hn9 hd9 hC hR nCT nIT
      replace F₁ := Fr.castR hm9 F₁; replace N₁ := News.castT hn9 N₁; rw [hn9] at hI2; replace hI2 := NqL.ofne hI2; dsimp only [List.map] at hI2; clear hm9 hn9
      rcases hm3 with hz | ⟨hz, hz2⟩
      · exact False.elim (by (first | lia | omega))
      obtain ⟨hc9, hp9⟩ := h0 (by (first | lia | omega))
      have hjn : j < svs.length := by (first | lia | omega)
      obtain ⟨cv, tcv, hsv, hsy2⟩ := hs.at j _ (List.getElem?_eq_getElem hjn)
      have hsv : svs[j]? = some (.int cv tcv) := by rw [List.getElem?_eq_getElem hjn, hsv]
      have e9 : 1 + (i : Int) = (ln : Int) := by (first | lia | omega)
      rw [e9, hc9, hp9, Int.zero_add] at F₁
      (show wpAny _ _ _ _ _ _); k_fold
      rw [if_pos (by (first | lia | omega)), Nat.zero_add] at hC
      have hkl : kvs.length ≤ 1000 := by rw [hC.len]; (first | lia | omega)
      have hfk := fresh_key hnd hC.keys hsy2
      k_lt lI2
      k_extra "k_steps"
      rename_i DT _ _ _ lD
      refine' TEnd.nextF kzF (News.sub kzN (S := (I2, o2) :: (I, o) :: (CD, kzo) :: (T2, tupOf svs 0) :: (x, instObj 218 d) :: (d, tblD w (.ref T1) T2 RD CD k1 k2 k3 k4) :: (RD, listOf (List.toArray vals) nr) :: (DT, tupOf [.int (j : Int) ?zt9, .int (ln : Int) t] 0) :: TL') (by k_extra "m sb")) ?zo (mk4 (a0 := (DT, tupOf [.int (j : Int) ?zt9, .int (ln : Int) t] 0) :: TL') (a1 := kvs ++ [(cv, .ref DT)]) ⟨?zm, rfl, kzIs, ?zC, hR.more, NqL.cons lD.tl.tl.hd.symm nCT, NqL.cons lD.tl.hd.symm nIT⟩)
      case zo => k_extra "m off"
      case zm => rw [e9, hc9, hp9]; k_extra "m map"
      case zC => rw [if_pos (by (first | lia | omega)), Nat.zero_add]; exact hC.snoc hsy2
    case zdone =>
      intro m news h tk hJ F₁ N₁
      (with_reducible refine ex4 hJ ?_); clear hJ; intro TL' kvs od' u1 hJ
      (with_reducible refine conj7 hJ ?_); clear hJ; intro hm9 hn9 hd9 hC hR nCT nIT
      replace F₁ := Fr.cast hm9 F₁; replace N₁ := News.cast hn9 N₁; clear hm9 hn9
      rw [hm2] at hC
      k_extra "k_steps"
      refine' TEnd.nextF (by assumption) (by assumption) ?zo (mk8 ⟨?zm, rfl, hd9, hC, hR, nCT⟩)
      case zo => k_extra "m off"
      case zm => k_extra "m map"
  case done =>
    intro m news h tk hJ F₁ N₁
    (with_reducible refine ex8 hJ ?_); clear hJ; intro TL' kvs od' u1 u2 u3 u4 u5 hJ
    (with_reducible refine conj6 hJ ?_); clear hJ; intro hm9 hn9 hd9 hC hR nCT
    replace F₁ := Fr.cast hm9 F₁; replace N₁ := News.cast hn9 N₁; clear hm9 hn9
    rw [if_neg (by (first | lia | omega))] at hC
    k_extra "k_steps"
    exact ret ((CD, od') :: (T2, tupOf svs 0) :: (x, instObj 218 d) :: (d, tblD w (.ref T1) T2 RD CD k1 k2 k3 k4) :: (RD, listOf (List.toArray vals) nr) :: TL') _ _ (fun h hh => tbl_of hh lo8 hd9 hC hR hs hnd hln hf) (by k_extra "m step")
end
end

theorem words_of_H3 : True := by
  k_with "codeAny" => (((with_reducible show codeAny _ _ (Code.call (Value.ref 201) _) _ _); k_dflt (refine' ht_init (by assumption) (by k_extra "m stay") (by k_extra "m room") (by k_extra "m room") (by k_extra "m own") (by k_extra "m nq") (by assumption) (by assumption) (by k_extra "m rd") (by k_extra "m nqs") (by assumption) (by assumption) (by first | assumption | omega) (by assumption) ?_); intros; k_extra "m upS"))
  exact trivial
section
/-- a dict whose keys are tuples of ints; their objects are KS -/
def TabO (w : World) (KS : List (Addr × Obj)) (o : Obj) (xs : List (List Int × Addr × Value)) : Prop :=
  o.ExactDict ∧ (∃ es ep, o.data = .dict es ep ∧ es.toList = xs.map (entryOfKey (tupleKind (intKind pw w)))) ∧ (∀ x ∈ xs, ∃ ok, (x.2.1, ok) ∈ KS ∧ TupKeyObj (intKind pw w) x.1 ok) ∧ (xs.map (·.1)).Nodup
theorem TabO.at {w : World} {KS : List (Addr × Obj)} {o : Obj} {xs : List (List Int × Addr × Value)} {h : Heap} {d : Addr} (T : TabO w KS o xs) (hd : h.get? d = some o) (hk : Holds KS h) : h.DictOfH (tupleKind (intKind pw w)) d xs := by
  obtain ⟨a, ⟨es, ep, b, c⟩, e, f⟩ := T
  refine ⟨o, es, ep, hd, a, b, c, fun x hx => ?_, f⟩
  obtain ⟨ok, h1, h2⟩ := e x hx
  exact h2.key (hk _ h1)
theorem TabO.of {w : World} {KS : List (Addr × Obj)} {xs : List (List Int × Addr × Value)} {h : Heap} {d : Addr} (D : h.DictOfH (tupleKind (intKind pw w)) d xs) (hk : ∀ x ∈ xs, ∃ ok, (x.2.1, ok) ∈ KS ∧ TupKeyObj (intKind pw w) x.1 ok) : ∃ o, h.get? d = some o ∧ TabO w KS o xs := by
  obtain ⟨o, es, ep, a, b, c, e, _, f⟩ := D
  exact ⟨o, a, b, ⟨es, ep, c, e⟩, hk, f⟩
theorem key2 {w : World} {a b : Int} {ta tb : Tok} {n : Nat} : TupKeyObj (intKind pw w) [a, b] (tupOf [.int a ta, .int b tb] n) := ⟨rfl, _, n, rfl, .cons (intKind_is _ _ _ _) (.cons (intKind_is _ _ _ _) .nil)⟩
section
variable {w : World} {A : Around} {E : Value → Shared → Prop} {s : Shared} {env : Env} {g : Heap} {L d a : Addr} {m : Str → Option Value} {news KS : List (Addr × Obj)} {o ok : Obj} {gg : Obj → List (Addr × Obj)} {xs : List (List Int × Addr × Value)} {ks : List Int} {v : Value}
theorem atKey_new (h : ks ∉ xs.map (·.1)) : atKey xs ks = none := by
  induction xs with
  | nil => rfl
  | cons x xs ih =>
    simp only [List.map_cons, List.mem_cons, not_or] at h
    have := ih h.2
    simp only [atKey, List.find?_cons] at this ⊢
    rw [show decide (x.1 = ks) = false from decide_eq_false fun e => h.1 e.symm]
    exact this
theorem stored_tup {h h' : Heap} (F : Fr g L h m) (N : News g L h news) (U : UpdF d o news gg) (T : TabO w KS o xs) (hka : TupKeyObj (intKind pw w) ks ok) (hnew : ks ∉ xs.map (·.1)) (hm : h'.DictOfH (tupleKind (intKind pw w)) d (storedH xs ks a v)) (hs : Heap.SameBut d h h') :
    ∃ o', Fr g L h' m ∧ News g L h' (gg o') ∧ TabO w ((a, ok) :: KS) o' (xs ++ [(ks, a, v)]) := by
  rw [storedH_new (atKey_new hnew)] at hm
  obtain ⟨o', ho', T'⟩ := TabO.of (KS := (a, ok) :: KS) hm fun x hx => by
    rcases List.mem_append.mp hx with q | q
    · obtain ⟨k, h1, h2⟩ := T.2.2.1 x q
      exact ⟨k, .tail _ h1, h2⟩
    · rw [List.mem_singleton.mp q]; exact ⟨ok, .head _, hka⟩
  obtain ⟨F', N'⟩ := upd1 F N U (fun b o hb e => (hs.2 b fun q => hb (by rw [q]; exact .head _)).trans e) ho'
  exact ⟨o', F', N', T'⟩
theorem put_tup {Q : Unit → Shared → Prop} (F : Fr g L s.heap m) (N : News g L s.heap news) (U : UpdF d o news gg) (T : TabO w KS o xs) (hKS : Holds KS s.heap) (hka : (s.heap.get? a = some ok)) (tk : TupKeyObj (intKind pw w) ks ok) (hnew : ks ∉ xs.map (·.1)) (hl : xs.length ≤ 100) (hu : A.units + 1 < cLine)
    (h : ∀ h' o' tk, Fr g L h' m → News g L h' (gg o') → TabO w ((a, ok) :: KS) o' (xs ++ [(ks, a, v)]) → Q () { s with heap := h', toks := tk }) :
    wpAny (model pw w) A (setItem (.ref d) (.ref a) v) Q E s := by
  obtain ⟨p, q, e, _, _, _⟩ := U.split
  have hd := (N (d, o) (by rw [e]; simp)).1
  refine wpAny_setItem_heap (tupleKind_room_in1 hu) (tk.key hka) (T.at hd hKS) (fun h' hm hs => ?_) (by rw [sizeLine_eq]; (first | lia | omega))
  obtain ⟨o', F', N', T'⟩ := stored_tup F N U T tk hnew hm hs
  exact h h' o' _ F' N' T'
/-- the stores of a display -/
def DStores (w : World) (A : Around) (E : Value → Shared → Prop) (d : Addr) (Q : Value → Shared → Prop) (vs : List (Value × Value)) (s : Shared) : Prop :=
  wpAny (model pw w) A (storeAll d vs) (fun _ s₂ => Q (.ref d) s₂) E s
theorem ds_nil {Q : Value → Shared → Prop} (h : Q (.ref d) s) : DStores w A E d Q [] s := by
  unfold DStores storeAll
  rw [List.forIn_nil]; exact wpAny_pure h
theorem ds_cons {Q : Value → Shared → Prop} {vs : List (Value × Value)} (F : Fr g L s.heap m) (N : News g L s.heap news) (U : UpdF d o news gg) (T : TabO w KS o xs) (hKS : ∀ p ∈ KS, p ∈ news) (hka : (a, ok) ∈ news) (tk : TupKeyObj (intKind pw w) ks ok) (hnew : ks ∉ xs.map (·.1)) (hl : xs.length ≤ 100) (hu : A.units < cLine)
    (h : ∀ h' o' tk, Fr g L h' m → News g L h' (gg o') → TabO w ((a, ok) :: KS) o' (xs ++ [(ks, a, v)]) → DStores w A E d Q vs { s with heap := h', toks := tk }) : DStores w A E d Q ((.ref a, v) :: vs) s := by
  obtain ⟨p, q, e, _, _, _⟩ := U.split
  have hd := (N (d, o) (by rw [e]; simp)).1
  unfold DStores storeAll
  rw [List.forIn_cons]
  refine wpAny_bind (wpAny_bind (wpAny_dictSet_heap hu (tk.key (N _ hka).1) (T.at hd fun p hp => (N p (hKS p hp)).1) (fun h' hm hs => wpAny_pure ?_) (by rw [sizeLine_eq]; (first | lia | omega))))
  obtain ⟨o', F', N', T'⟩ := stored_tup F N U T tk hnew hm hs
  exact h h' o' _ F' N' T'
theorem dict_disp {keys : List (Option PySem.Expr)} {values : List PySem.Expr} {pos : Pos} {Q : Value → Shared → Prop} (F : Fr g L s.heap m) (N : News g L s.heap news) (hbig : g.NoLimit)
    (hall : keys.all (·.isSome) = true) (hl : keys.length = values.length) (h0 : keys ≠ []) (hlen : keys.length ≤ 15)
    (h : ∀ (d : Addr) h' o, Fr g L h' m → News g L h' ((d, o) :: news) → (∀ p ∈ news, p.1 < d) → (d == sysModules) = false → TabO w [] o [] →
      wpAny (model pw w) A (evalPairs (pairTrees keys values env pos)) (fun vs s₁ => DStores w A E d Q vs s₁) E { s with heap := h' }) :
    wpAny (model pw w) A (eval (.Dict keys values pos) env) Q E s := by
  obtain ⟨o, ho, T⟩ := TabO.of (KS := []) (Heap.DictOfH.new (knd := tupleKind (intKind pw w)) s.heap) (fun _ hx => nomatch hx)
  exact wpAny_Dict_any hall hl h0 hlen (h _ _ o (F.push _) (news_pushed F N (fun b x e => Heap.get?_push_of_some _ e) ho rfl) (fun p hp => Heap.lt_size (N p hp).1) (F.notModules (modules_low hbig)) T)
end
/-- a dict by its entries: its keys in turn, of whatever kind -/
def DictE (o : Obj) (es : Array DictEntry) (ep : Nat) : Prop := o.ExactDict ∧ o.data = .dict es ep
section
variable {prog : Program} {w : World} {A : Around} {E : Value → Shared → Prop} {s : Shared} {env : Env} {g : Heap} {target : Expr} {body : List Stmt} {d I : Addr} {od : Obj} {es : Array DictEntry} {ep i : Nat}
theorem ki_start {Q : Value → Shared → Prop} (hd : (d == sysModules) = false) (ho : s.heap.get? d = some od) (hc : DictE od es ep)
    (hQ : Q (.ref s.heap.objs.size) { s with heap := s.heap.push { cls := .type "dict_keyiterator", data := .fields #[.ref d, .int 0 0, .int es.size 0, .int ep 0] } }) :
    wpAny (model prog w) A (pyIter (.ref d)) Q E s := by
  have hT : s.TypeIs (.ref d) "dict" := ⟨od, ho, hc.1.1⟩
  refine wpAny_pyIter_slot hT F.slot_dict_iter (wpAny_call_entry F.slot_dict_iter hT F.entry_dict_iter ?_ (F.args_dict_iter_1 _))
  unfold Builtin.«dict.__iter__» Builtin.Dict.dictSlotNone
  refine wpAny_bind (wpAny_bind (wpAny_notOrdered_dict hT ?_))
  show wpAny _ _ (pure (Value.ref d)) _ _ s
  refine wpAny_pure ?_
  show wpAny _ _ (Builtin.Dict.showsAll d >>= _) _ _ s
  unfold Builtin.Dict.showsAll
  rw [if_neg (by rw [hd]; exact Bool.false_ne_true)]
  refine wpAny_bind (wpAny_pure (wpAny_bind (wpAny_dictEntries ho hc.2 (wpAny_bind (wpAny_dictEpoch ho hc.2 ?_)))))
  exact wpAny_bind (wpAny_newObj_type (wpAny_pure ⟨_, rfl, "dict_keyiterator", _, ⟨_, Heap.get?_push_size _ rfl, rfl⟩, F.slot_dict_keyiterator_next.lookup, by simpa [rawInt] using hQ⟩))
theorem ki_item {e : DictEntry} {Q : Option Value → Shared → Prop} (hit : s.heap.IsKeyIter I d i es.size ep) (ho : s.heap.get? d = some od) (hc : DictE od es ep) (hx : es[i]? = some e)
    (hQ : ∀ h', h'.IsKeyIter I d (i + 1) es.size ep → Heap.SameBut I s.heap h' → Q (some e.key) { s with heap := h' }) :
    wpAny (model prog w) A (pyNext (.ref I)) Q E s := by
  obtain ⟨o, hoI, hcI, hdI⟩ := id hit
  unfold pyNext
  refine wpAny_bind (wpAny_attempt (wpAny_callSpecial?_slot (name := Str.ofString "__next__") hit.typeIs F.slot_dict_keyiterator_next
    (wpAny_call_entry F.slot_dict_keyiterator_next hit.typeIs F.entry_dict_keyiterator_next ?_ (F.args_dict_keyiterator_next_1 _))))
  refine wpAny_bind (wpAny_pure (wpAny_bind (wpAny_bind ?_)))
  first | refine wpAny_bind (wpAny_typeNameOfWhole_keyiter hit.typeIs (wpAny_pure ?_)) | refine wpAny_bind (wpAny_typeNameOf_keyiter hit.typeIs (wpAny_pure ?_))
  refine wpAny_bind (wpAny_fieldsOf hoI hdI ?_)
  have hown : Builtin.Dict_items.ownsTuple "dict_keyiterator" = false := by decide
  simp only [hown, Bool.false_eq_true, if_false]
  show wpAny _ _ (if (Value.ref d == Value.none) = true then _ else _) _ _ s
  rw [if_neg (show ¬ ((Value.ref d == Value.none) = true) from Bool.false_ne_true)]
  refine wpAny_bind (wpAny_pure (wpAny_bind (wpAny_dictEntries ho hc.2 ?_)))
  rw [if_neg (by simp)]
  refine wpAny_bind (wpAny_pure (wpAny_bind (wpAny_dictEpoch ho hc.2 ?_)))
  rw [if_neg (by simp)]
  refine wpAny_pure ?_
  simp only [show ¬ ((i : Int) < 0) from by (first | lia | omega), if_false, Int.toNat_natCast, hx]
  refine wpAny_bind ?_
  first | refine wpAny_bind (wpAny_typeNameOfWhole_keyiter hit.typeIs (wpAny_pure ?_)) | refine wpAny_bind (wpAny_typeNameOf_keyiter hit.typeIs (wpAny_pure ?_))
  refine wpAny_bind (wpAny_isOneOf_keyiter hit.typeIs ?_)
  show wpAny _ _ (setField (.ref I) 1 (rawInt ((i : Int) + 1)) >>= _) _ _ s
  refine wpAny_bind (wpAny_setField hoI hdI (by simp) ?_)
  have hit' : (s.heap.update I (Obj.mapFields (·.setIfInBounds 1 (rawInt ((i : Int) + 1))))).IsKeyIter I d (i + 1) es.size ep :=
    ⟨_, Heap.get?_update_self _ hoI (Obj.isFreed_of_fields (Obj.data_mapFields hdI _)), (Obj.cls_mapFields ..).trans hcI, by rw [Obj.data_mapFields hdI]; simp [rawInt]⟩
  refine wpAny_bind (wpAny_holding (wpAny_bind (wpAny_isOneOf_keyiter (s := { s with heap := s.heap.update I (Obj.mapFields (·.setIfInBounds 1 (rawInt ((i : Int) + 1)))) }) hit'.typeIs ?_)))
  show wpAny _ _ (pure e.key) _ _ _
  exact wpAny_pure (wpAny_pure ⟨_, rfl, wpAny_pure (hQ _ hit' (Heap.SameBut.update ..))⟩)
theorem ki_end {Q : Option Value → Shared → Prop} (hh : A.handled = none) (hit : s.heap.IsKeyIter I d i es.size ep) (ho : s.heap.get? d = some od) (hc : DictE od es ep) (hx : es[i]? = none)
    (hQ : ∀ h', Heap.ExtBut I s.heap h' → Q none { s with heap := h' }) : wpAny (model prog w) A (pyNext (.ref I)) Q E s := by
  obtain ⟨o, hoI, hcI, hdI⟩ := id hit
  unfold pyNext
  refine wpAny_bind (wpAny_attempt (wpAny_callSpecial?_slot (name := Str.ofString "__next__") hit.typeIs F.slot_dict_keyiterator_next
    (wpAny_call_entry F.slot_dict_keyiterator_next hit.typeIs F.entry_dict_keyiterator_next ?_ (F.args_dict_keyiterator_next_1 _))))
  refine wpAny_bind (wpAny_pure (wpAny_bind (wpAny_bind ?_)))
  first | refine wpAny_bind (wpAny_typeNameOfWhole_keyiter hit.typeIs (wpAny_pure ?_)) | refine wpAny_bind (wpAny_typeNameOf_keyiter hit.typeIs (wpAny_pure ?_))
  refine wpAny_bind (wpAny_fieldsOf hoI hdI ?_)
  have hown : Builtin.Dict_items.ownsTuple "dict_keyiterator" = false := by decide
  simp only [hown, Bool.false_eq_true, if_false]
  show wpAny _ _ (if (Value.ref d == Value.none) = true then _ else _) _ _ s
  rw [if_neg (show ¬ ((Value.ref d == Value.none) = true) from Bool.false_ne_true)]
  refine wpAny_bind (wpAny_pure (wpAny_bind (wpAny_dictEntries ho hc.2 ?_)))
  rw [if_neg (by simp)]
  refine wpAny_bind (wpAny_pure (wpAny_bind (wpAny_dictEpoch ho hc.2 ?_)))
  rw [if_neg (by simp)]
  refine wpAny_pure ?_
  simp only [show ¬ ((i : Int) < 0) from by (first | lia | omega), if_false, Int.toNat_natCast, hx]
  refine wpAny_bind ?_
  first | refine wpAny_bind (wpAny_typeNameOfWhole_keyiter hit.typeIs (wpAny_pure ?_)) | refine wpAny_bind (wpAny_typeNameOf_keyiter hit.typeIs (wpAny_pure ?_))
  show wpAny _ _ (setField (.ref I) 0 .none >>= _) _ _ s
  refine wpAny_bind (wpAny_setField hoI hdI (by simp) ?_)
  show wpAny _ _ (newExc (.type "StopIteration") [] >>= _) _ _ _
  refine wpAny_bind ?_
  simp only [newExc, newTuple]
  refine wpAny_bind (wpAny_newObj_type ?_ (by size_fits))
  refine wpAny_bind (m := firstArgMember _ _) (wpAny_of_eq (a := Value.none) (by first | rfl | (simp only [firstArgMember]; rfl)) ?_)
  refine wpAny_newObj_type ?_ (by size_fits)
  simp only [raiseNew]
  refine wpAny_bind (wpAny_handled ?_)
  rw [show A.in1.handled = none from hh]
  refine wpAny_bind (wpAny_pure (wpAny_throw ?_))
  refine wpAny_bind (wpAny_isInstance (T := "StopIteration") (b := true) ⟨_, Heap.get?_push_size _ rfl, rfl⟩ isSubtype_stop ?_)
  exact wpAny_pure (hQ _ (((Heap.SameBut.update ..).extBut.push _).push _))
theorem ki_walks (hh : A.handled = none) (hne : d ≠ I) (hc : DictE od es ep) :
    Walks prog w A I [I, d] [I] es.size (fun i v => ∃ e, es[i]? = some e ∧ v = e.key) (fun i h => h.IsKeyIter I d i es.size ep ∧ h.get? d = some od) where
  sub := fun b hb => by simp at hb; simp [hb]
  frame := fun _ _ _ st hk => ⟨st.1.at fun o e => hk I (by simp) o e, hk d (by simp) _ st.2⟩
  item := fun i s Q E hi st hQ => by
    have hx : es[i]? = some es[i] := by simp [hi]
    refine ki_item st.1 st.2 hc hx fun h' hit' hs' => ?_
    exact hQ _ h' s.toks ⟨_, hx, rfl⟩ ⟨hit', (hs'.2 d hne).trans st.2⟩ fun b o hb e => hs'.extBut b o (fun h => hb (by simp [h])) e
  done := fun s Q E st hQ => ki_end hh st.1 st.2 hc (by simp) fun h' he' => hQ h' s.toks fun b o hb e => he' b o (fun h => hb (by simp [h])) e
  self := fun _ _ _ _ st hQ => wpAny_pyIter_keyiter st.1 hQ
/-- a loop over the keys of a dict of the base -/
theorem for_keysB {Q : Flow → Shared → Prop} {m₀ : Str → Option Value} {news : List (Addr × Obj)} (J : Nat → (Str → Option Value) → List (Addr × Obj) → Prop)
    (hh : A.handled = none) (lo : (d == sysModules) = false) (hl : g.get? d = some od) (X : DictE od es ep) (F : Fr g env.locals s.heap m₀) (N : News g env.locals s.heap news) (h0 : J 0 m₀ news)
    (turn : ∀ I i e m₁ news₁ h tk o, (∀ p ∈ news, p.1 < I) → es[i]? = some e → J i m₁ news₁ → (∀ p ∈ news₁, p.1 ≠ I) → Fr g env.locals h m₁ → News g env.locals h ((I, o) :: news₁) →
      wpAny (model prog w) A (assign target env e.key) (fun _ s₃ => wpAny (model prog w) A (execs body env) (TEnd g env.locals I [(I, o)] (J (i + 1)) { s with heap := h, toks := tk } Q) E s₃) E { s with heap := h, toks := tk })
    (done : ∀ m' news' h tk, J es.size m' news' → Fr g env.locals h m' → News g env.locals h news' → Q .next { s with heap := h, toks := tk }) :
    wpAny (model prog w) A (pyIter (.ref d)) (fun it s₂ => TurnsAt prog w A g env target body Q E it s₂) E s := by
  have hls := F.keep _ _ hl
  have hlt : d < g.objs.size := Heap.lt_size hl
  have hne : d ≠ s.heap.objs.size := Nat.ne_of_lt (Heap.lt_size hls)
  refine ki_start lo hls X ?_
  have W := KTurns.ofWalks (target := target) (ki_walks (prog := prog) (w := w) (A := A) hh hne X) (fun i v s' Q' E' st hQ' => letGo_keyiter st.1 hQ')
  refine mk10 (a0 := s.heap.objs.size) (a3 := es.size) (a7 := m₀) (a8 := news) (a9 := J) ⟨rfl, W, ?_, ?_, ?_, ⟨⟨_, Heap.get?_push_size _ rfl, rfl, rfl⟩, Heap.get?_push_of_some _ hls⟩, F.push _, (fun p hp => ⟨Heap.get?_push_of_some _ (N p hp).1, (N p hp).2⟩), h0, ?_, ?_⟩
  · intro hm
    rcases List.mem_cons.mp hm with e | hm
    · exact absurd F.ns.lt (e ▸ Nat.lt_irrefl _)
    · exact absurd (Nat.lt_of_lt_of_le hlt F.above) ((List.mem_singleton.mp hm) ▸ Nat.lt_irrefl _)
  · intro b hb; rw [List.mem_singleton.mp hb]; exact next_is_new F
  · intro p hp hI; exact absurd (Heap.lt_size (N p hp).1) ((List.mem_singleton.mp hI) ▸ Nat.lt_irrefl _)
  · rintro i v m₁ news₁ hh' tk' own hin ⟨e, he, rfl⟩ hJ hoff hown hget hall hst F₁ N₁
    obtain ⟨o, ho, _⟩ := hst.1
    have hio : (s.heap.objs.size, o) ∈ own := hall _ (.head _) (next_is_new F) _ ho
    have hone := own_one hown (fun b hb => by
      rcases List.mem_cons.mp hb with e | hb
      · exact .inl e
      · exact .inr ⟨_, (List.mem_singleton.mp hb) ▸ hl⟩) ho N₁
    exact wpAny_mono (turn s.heap.objs.size i e m₁ news₁ hh' tk' o (fun p hp => Heap.lt_size (N p hp).1) he hJ (fun p hp e => hoff p hp (by rw [e]; exact List.mem_singleton.mpr rfl)) F₁ (news_one hio N₁)) (fun _ s₃ h₃ => wpAny_mono h₃ (fun f s₂ p => turn_fin (news₁ := news₁) (fun p hp => List.mem_singleton.mpr (hone p hp)) p) fun _ _ e => e) fun _ _ e => e
  · rintro h' tk m' news' F' N'' _ hJ
    exact done m' news' h' tk hJ F' N''
end
end
section
namespace G_L1
theorem in_L1 : True := trivial
end G_L1
open G_L1
section
variable {prog : Program} {w : World} {A : Around} {E : Value → Shared → Prop} {s : Shared} {env : Env} {g : Heap} {body : List Stmt} {Q : Flow → Shared → Prop}
theorem for_rangeT {x : Str} {px : Pos} {r : Addr} {a₀ b₀ : Int} {t₀ u₀ v₀ : Tok} {n : Nat} {m₀ : Str → Option Value} {news : List (Addr × Obj)} (J : Nat → (Str → Option Value) → List (Addr × Obj) → Prop)
    (hh : A.handled = none) (hr : IsRange s.heap r a₀ b₀ 1 t₀ u₀ v₀) (hsmall : Builtin.Range.small a₀ b₀ 1 = true) (hn : Builtin.Range.rangeSize a₀ b₀ 1 = (n : Int)) (F : Fr g env.locals s.heap m₀) (N : News g env.locals s.heap news) (h0 : J 0 m₀ news)
    (turn : ∀ I i t m₁ news₁ h tk o, (∀ p ∈ news, p.1 < I) → i < n → J i m₁ news₁ → (∀ p ∈ news₁, p.1 ≠ I) → Fr g env.locals h m₁ → News g env.locals h ((I, o) :: news₁) →
      wpAny (model prog w) A (assign (.Name x px) env (.int (a₀ + (i : Nat)) t)) (fun _ s₃ => wpAny (model prog w) A (execs body env) (TEnd g env.locals I [(I, o)] (J (i + 1)) { s with heap := h, toks := tk } Q) E s₃) E { s with heap := h, toks := tk })
    (done : ∀ m' news' h tk, J n m' news' → Fr g env.locals h m' → News g env.locals h news' → Q .next { s with heap := h, toks := tk }) :
    wpAny (model prog w) A (pyIter (.ref r)) (fun it s₂ => TurnsAt prog w A g env (.Name x px) body Q E it s₂) E s := by
  refine wpAny_pyIter_range hr hsmall ?_
  have W0 : Walks prog w A s.heap.objs.size [s.heap.objs.size] [s.heap.objs.size] n (fun i v => i < n ∧ ∃ t, v = .int (a₀ + i * 1) t)
      (fun i h => IsRangeIter h s.heap.objs.size (a₀ + (i : Nat) * 1) ((n : Int) - (i : Nat)) 1) := (Walks.range hh _ a₀ 1 n).bound
  have W := KTurns.ofWalks (target := .Name x px) W0 (fun i v s' Q' E' st hQ' => by unfold letOwnedTupleGo; exact wpAny_pure hQ')
  refine mk10 (a0 := s.heap.objs.size) (a3 := n) (a7 := m₀) (a8 := news) (a9 := J) ⟨rfl, W, ?_, ?_, ?_, ?_, F.push _, (fun p hp => ⟨Heap.get?_push_of_some _ (N p hp).1, (N p hp).2⟩), h0, ?_, ?_⟩
  · intro hm; exact absurd F.ns.lt ((List.mem_singleton.mp hm) ▸ Nat.lt_irrefl _)
  · intro b hb; rw [List.mem_singleton.mp hb]; exact next_is_new F
  · intro p hp hI; exact absurd (Heap.lt_size (N p hp).1) ((List.mem_singleton.mp hI) ▸ Nat.lt_irrefl _)
  · show IsRangeIter _ _ _ _ _; rw [hn]; simpa using Heap.get?_push_size _ rfl
  · rintro i v m₁ news₁ hh' tk' own hin ⟨_, t, rfl⟩ hJ hoff hown hget hall hst F₁ N₁
    have hob : ∃ o, hh'.get? s.heap.objs.size = some o := ⟨_, hst⟩
    obtain ⟨o, ho⟩ := hob
    have hio : (s.heap.objs.size, o) ∈ own := hall _ (List.mem_singleton.mpr rfl) (next_is_new F) _ ho
    have hone := own_one hown (fun b hb => .inl (List.mem_singleton.mp hb)) ho N₁
    have e1 : a₀ + (i : Int) * 1 = a₀ + (i : Nat) := by (first | lia | omega)
    rw [e1]
    exact wpAny_mono (turn s.heap.objs.size i t m₁ news₁ hh' tk' o (fun p hp => Heap.lt_size (N p hp).1) hin hJ (fun p hp e => hoff p hp (by rw [e]; exact List.mem_singleton.mpr rfl)) F₁ (news_one hio N₁)) (fun _ s₃ h₃ => wpAny_mono h₃ (fun f s₂ p => turn_fin (news₁ := news₁) (fun p hp => List.mem_singleton.mpr (hone p hp)) p) fun _ _ e => e) fun _ _ e => e
  · rintro h' tk m' news' F' N'' _ hJ
    exact done m' news' h' tk hJ F' N''
end
/-- the law's symbols of sizes and of runs -/
def szs : List Int := [0, 1, 2, 3, 4, 5]
def rns (j : Nat) : List Int := [0] ++ (List.range j).flatMap fun (r : Nat) => (List.range 5).map fun (k : Nat) => 16 * ((r : Nat) : Int) + (1 + ((k : Nat) : Int))
def LS (a b : Int) : List Int × Nat := if a = 0 then (if b = 0 then (szs, 3) else (szs.reverse, 4)) else (if b = 0 then (rns 3, 5) else ((rns 3).reverse, 6))
theorem rns_succ (j : Nat) : rns (j + 1) = rns j ++ (List.range 5).map fun (k : Nat) => 16 * ((j : Nat) : Int) + (1 + ((k : Nat) : Int)) := by
  show [0] ++ (List.range (j + 1)).flatMap _ = ([0] ++ (List.range j).flatMap _) ++ _
  rw [List.range_succ (n := j), List.flatMap_append, List.append_assoc]; simp
theorem rns_len (j : Nat) : (rns j).length = 1 + 5 * j := by
  induction j with
  | zero => rfl
  | succ j ih => rw [rns_succ, List.length_append, ih]; simp; (first | lia | omega)
theorem rev_N {prog : Program} {w : World} {A : Around} {E : Value → Shared → Prop} {g h : Heap} {gs : Array GenState} {dr : Drawn} {tk : Nat} {os : OsState} {L l : Addr} {m : Str → Option Value} {news : List (Addr × Obj)} {value slice : PySem.Expr} {vs ops : List Value} {k : Nat} {u : Tok} {Q : Value → Shared → Prop} (F : Fr g L h m) (N : News g L h news) (hm : (l, listOf vs.toArray k) ∈ news) (hz : vs.length ≤ 1000)
    (hq : ∀ D h', Fr g L h' m → News g L h' ((D, listOf (List.toArray vs.reverse) 0) :: news) → (∀ p ∈ news, p.1 < D) → Q (.ref D) ⟨h', gs, dr, tk, os⟩)
    (hs : subscripted slice false (.ref l) (.ref h.objs.size) = operate ops (getItem (.ref l) (.ref h.objs.size)) := by with_unfolding_all rfl) (ht : ∀ r, letTemporaryGo value (.ref l) r = pure () := by intro _; with_unfolding_all rfl) :
    wpAny (model prog w) A (subscriptTail value slice (.ref l) (.ref h.objs.size)) Q E ⟨h.push { cls := .type "slice", data := .fields #[.none, .none, .int (-1) u] }, gs, dr, tk, os⟩ :=
  krv_lit (s := ⟨h, gs, dr, tk, os⟩) F N (News.isList N hm) (IsPart.int _ _) (by simp) hq hs ht (by rw [List.size_toArray, sizeLine_eq]; (first | lia | omega))
theorem line_68 : True := by
  k_with "subscriptTail Name Slice ref ref" => (guard_expr in_L1 =~ in_L1; (k_here; k_dflt (refine' rev_N (by k_asm) (by k_asm) (by k_mem) (by (first | lia | omega)) ?_); intro kzD kzh kzF kzN kz1; (try k_lt kz1); (try k_sweep)))
  exact trivial
theorem line_69 : True := by
  k_with "eval Dict" => (guard_expr in_L1 =~ in_L1; (k_here; k_dflt (refine' dict_disp (by k_asm) (by k_asm) (by exact Top.nolimit (by k_asm)) (by rfl) (by rfl) (by exact List.cons_ne_nil _ _) (by exact Nat.le_of_ble_eq_true rfl) ?_); intro kzd kzh kzo kzF kzN kz1 lo9 kzT; (try k_lt kz1)))
  exact trivial
theorem line_70 : True := by
  k_with "DStores cons" => (guard_expr in_L1 =~ in_L1; (k_dflt (refine' ds_cons (by k_asm) (by k_asm) (by k_updF) (by assumption) (by k_extra "m sb") (by k_mem) (by exact key2) (by ((try dsimp only [List.map, List.nil_append, List.cons_append]); decide)) (by exact Nat.le_of_ble_eq_true rfl) (by exact Nat.lt_of_succ_lt (by k_extra "m room")) ?_); intro kzh kzo kzt kzF kzN kzT; (try dsimp only at kzN)))
  exact trivial
theorem line_71 : True := by
  k_with "DStores nil" => (guard_expr in_L1 =~ in_L1; (refine ds_nil ?_))
  exact trivial
inductive LXv (h : Heap) (KB : List (Addr × Obj)) (x : List Int × Addr × Value) : Prop
  | mk (a b : Int) (ta tb : Tok) (n : Nat) (tu sl : Addr) (vs : List Value) (t : Tok) (n1 n2 : Nat) (e1 : x.1 = [a, b]) (e2 : a = 0 ∨ a = 1) (e3 : b = 0 ∨ b = 1) (e4 : (x.2.1, tupOf [.int a ta, .int b tb] n) ∈ KB) (e5 : x.2.2 = .ref tu) (e6 : h.get? tu = some (tupOf [.ref sl, .int ((LS a b).2 : Int) t] n1)) (e7 : h.get? sl = some (listOf vs.toArray n2)) (e8 : IntsAre vs (LS a b).1) : LXv h KB x
/-- the law's lists, key by key; KB: the keys' objects -/
structure LX (w : World) (h : Heap) (LD : Addr) (KB : List (Addr × Obj)) (xs : List (List Int × Addr × Value)) : Prop where
  D : h.DictOfH (tupleKind (intKind pw w)) LD xs
  lo : (LD == sysModules) = false
  keys : xs.map (·.1) = [[0, 0], [0, 1], [1, 0], [1, 1]]
  kb : Holds KB h
  val : ∀ x ∈ xs, LXv h KB x
theorem LX.lsts {w : World} {h : Heap} {LD : Addr} {KB : List (Addr × Obj)} {xs : List (List Int × Addr × Value)} (X : LX w h LD KB xs) : Lsts w h LD LS := by
  refine ⟨xs, X.D, fun a b ha hb => ?_⟩
  have hk : [a, b] ∈ xs.map (·.1) := by rw [X.keys]; rcases ha with rfl | rfl <;> rcases hb with rfl | rfl <;> simp
  obtain ⟨x, hx, e⟩ := List.mem_map.mp hk
  obtain ⟨a', b', ta, tb, n, tu, sl, vs, t, n1, n2, e1, _, _, _, e2, e3, e4, e5⟩ := X.val x hx
  rw [e1] at e
  obtain ⟨rfl, rfl⟩ : a' = a ∧ b' = b := by cases e; exact ⟨rfl, rfl⟩
  obtain ⟨i, hi⟩ := List.getElem?_of_mem hx
  obtain ⟨k, ka, v⟩ := x
  cases e1; cases e2
  exact ⟨ka, tu, sl, vs, t, n1, n2, atKey_of_get (by rw [X.keys]; decide) hi, e3, e4, e5⟩
theorem lx_ret {G : Prop} {w : World} {g h : Heap} {L LD : Addr} {LB KS : List (Addr × Obj)} {o : Obj} {xs : List (List Int × Addr × Value)} (_ : News g L h LB) (T : TabO w KS o xs) (hs : ∀ p ∈ KS, p ∈ LB) (hm : (LD, o) ∈ LB) (lo : (LD == sysModules) = false) (hk : xs.map (·.1) = [[0, 0], [0, 1], [1, 0], [1, 1]])
    (hv : ∀ h, Holds LB h → ∀ x ∈ xs, LXv h KS x)
    (k : (∀ p ∈ KS, p ∈ LB) → (∀ h, Holds LB h → LX w h LD KS xs) → G) : G :=
  k hs fun h hh => ⟨T.at (hh _ hm) fun p hp => hh p (hs p hp), lo, hk, fun p hp => hh p (hs p hp), hv h hh⟩
theorem LX.keeps {w : World} {h h' : Heap} {LD : Addr} {KB : List (Addr × Obj)} {xs : List (List Int × Addr × Value)} (X : LX w h LD KB xs) (k : h.StaysIn h') : LX w h' LD KB xs where
  D := DictOfH.keeps X.D k
  lo := X.lo
  keys := X.keys
  kb := fun p hp => k _ _ (X.kb p hp)
  val := fun x hx => by
    obtain ⟨a, b, ta, tb, n, tu, sl, vs, t, n1, n2, e1, e2, e3, e4, e5, e6, e7, e8⟩ := X.val x hx
    exact ⟨a, b, ta, tb, n, tu, sl, vs, t, n1, n2, e1, e2, e3, e4, e5, k _ _ e6, k _ _ e7, e8⟩
section
variable {w : World} {dp un : Nat} {fr : Option (List Env)} {gd : Option (List Code)} {h₀ : Heap} {s : Shared} {R : Result → Shared → Prop}
theorem llists (C : Stc w h₀) (k : h₀.StaysIn s.heap) {X : Addr}
   (hd : dp + 6 < recursionLimit) (hu : un + 80 < cLine) (O : News h₀ X s.heap ([]))
  (ret : ∀ LD LB KB xs (h' : Heap) (tk' : Nat), (∀ p ∈ KB, p ∈ LB) → (∀ h, Holds LB h → LX w h LD KB xs) → Step X s.heap h' ([]) (LB) → R (.ok (.ret (.ref LD))) { s with heap := h', toks := tk' }) :
  codeAny (model pw w) (ar dp fr gd un) (.call (.ref 605) ⟨[], []⟩) R s := by
  refine' beginX ([]) [] (st := stm 40) C k (News.ent O) ?ho ?he ?hcd ?hroom ?hbind ?hsc ?hnd ?_
  case ho => k_is
  case he => exact rfl
  case hcd => k_is
  case hroom => exact lt_of_add hd
  case hbind => exact rfl
  case hsc => exact rfl
  case hnd => decide +kernel
  intro g L h₁ mean mg mb tk cells F N Y lS X₁ T₁ En C' K
  k_cells Y
  (try simp only [List.cons_append, List.nil_append] at N)
  have lS1 := NqL.of_add lS 1
  have lS2 := NqL.of_add lS 2
  dsimp only [List.map] at lS1 lS2
  k_lt lS
  replace F : Fr g L h₁ (fun _ => none) := F
  k_extra "k_steps"
  rename Fr _ _ _ _ => F5; rename News _ _ _ _ => N5
  rename_i oc dc SZ _ l1 RN _ l2 _ _ _ _ _ _
  obtain ⟨sv, t0, hsv, N6⟩ : ∃ sv t0, IntsAre sv szs ∧ News g L _ [(RN, listOf (List.toArray [.int 0 t0]) 0), (SZ, listOf (List.toArray sv) 0), (L + 1, oc)] := ⟨[.int 0 _, .int 1 _, .int 2 _, .int 3 _, .int 4 _, .int 5 _], _, .cons _ _ (.cons _ _ (.cons _ _ (.cons _ _ (.cons _ _ (.cons _ _ .nil))))), News.sub N5 (by k_extra "m sb")⟩
  have n1 : Nq SZ (L + 1) := l1.hd.symm
  have n2 : Nq RN (L + 1) := l2.tl.hd.symm
  clear N5
  k_extra "m turns"
  k_extra "k_steps"
  rename IsRange _ _ _ _ _ _ _ _ => mR; rename Fr _ _ _ _ => F7; rename News _ _ _ _ => N7
  refine' for_rangeT (n := 3) (fun j m news => ∃ RN oc kr vals cv, m = (fun y => if y = Str.ofString "sizes" then some (.ref SZ) else if y = Str.ofString "runs" then some (.ref RN) else none)
    ∧ news = [(RN, listOf (List.toArray vals) kr), (SZ, listOf (List.toArray sv) 0), (L + 1, oc)] ∧ IntsAre vals (rns j) ∧ oc.data = .cell cv ∧ Nq RN (L + 1)) (by rfl) mR (by decide) (by decide) F7 N7 ?h0 ?turn ?done
  case h0 => exact mk5 ⟨by k_extra "m map", rfl, .cons _ _ .nil, dc, n2⟩
  case turn =>
    intro I j t m news h tk o lI hj hJ hI F₁ N₁
    (with_reducible refine ex5 hJ ?_); clear hJ; intro RN oc kr vals cv hJ
    (with_reducible refine conj5 hJ ?_); clear hJ; intro hm9 hn9 hv hd8 n3
    replace F₁ := Fr.cast hm9 F₁; replace N₁ := News.castT hn9 N₁; rw [hn9] at hI; replace hI := NqL.ofne hI; dsimp only [List.map] at hI; clear hm9 hn9
    k_lt lI
    k_extra "k_steps"
    rename_i oc9 _ _ dc9
    rw [Int.zero_add] at dc9
    refine' comp_enter ?zcl ?zk ?zn ?_
    case zcl => exact rfl
    case zk => exact rfl
    case zn => decide +kernel
    k_extra "k_steps"
    rename IsRange _ _ _ _ _ _ _ _ => mR2; rename Fr _ _ _ _ => F5; rename News _ _ _ _ => N5
    refine' comp_range (n := 5) (fun i vals9 news => news = [(I, o), (RN, listOf (List.toArray vals) kr), (SZ, listOf (List.toArray sv) 0), (L + 1, oc9)] ∧ IntsAre vals9 ((List.range i).map fun (k : Nat) => 16 * ((j : Nat) : Int) + (1 + ((k : Nat) : Int)))) (by rfl) (by decide +kernel) (by rfl) (by rfl) mR2 (by decide) (by rfl) (by (first | lia | omega)) F5 N5 ⟨rfl, .nil⟩ ?cturn ?cdone
    case cturn =>
      rintro I2 Cc D oL oI i t2 vals9 kD mc news h tk hi ⟨rfl, hv9⟩ hl F6 N6 a1 a2 a3 a4 a5 a6 a7
      replace a5 := NqL.of_off a5
      replace a6 := NqL.of_off a6
      replace a7 := NqL.of_off a7
      dsimp only [List.map, envOfC] at F6 N6 a1 a2 a4 a5 a6 a7
      k_extra "k_steps"
      k_extra "m junk"
      exact ⟨_, _, _, _, rfl, by assumption, News.sub (by assumption) (by k_extra "m sb"), by k_extra "m offs", by k_extra "m offs", by k_extra "m offs", rfl, ia_eq (ints_snoc hv9 _ _) (by rw [List.range_succ (n := i), List.map_append]; rfl)⟩
    case cdone =>
      rintro D h tk vals9 kD news hl ⟨rfl, hv9⟩ F6 N6 a1
      replace a1 := NqL.of_off a1
      dsimp only [List.map] at a1
      have hlv : vals.length ≤ 100 := by rw [hv.length, rns_len]; (first | lia | omega)
      k_extra "k_steps"
      refine' TEnd.nextF (by assumption) (News.sub (by assumption) (S := (I, o) :: (kzD, listOf (List.toArray (vals ++ vals9)) 0) :: (SZ, listOf (List.toArray sv) 0) :: (L + 1, oc9) :: []) (by k_extra "m sb")) ?zo (mk5 ⟨?zm, rfl, ia_eq (ints_app hv hv9) (rns_succ j).symm, dc9, ?zn⟩)
      case zo => k_extra "m off"
      case zm => k_extra "m map"
      case zn => k_extra "m nq"
  case done =>
    intro m news h tk hJ F₁ N₁
    dsimp only
    (with_reducible refine ex5 hJ ?_); clear hJ; intro RN oc kr vals cv hJ
    (with_reducible refine conj5 hJ ?_); clear hJ; intro hm9 hn9 hv hd8 n3
    replace F₁ := Fr.cast hm9 F₁; replace N₁ := News.cast hn9 N₁; clear hm9 hn9
    have hlv : vals.length ≤ 100 := by rw [hv.length, rns_len]; (first | lia | omega)
    have hls : sv.length ≤ 100 := by rw [hsv.length]; decide
    k_extra "k_steps"
    refine' lx_ret (LD := kzd) kzN kzT ?qa ?qb lo9 ?qc ?qv ?qk
    case qa => k_extra "m sb"
    case qb => k_mem
    case qc => rfl
    case qk => exact fun a b => ret kzd _ _ _ _ _ a b (Step.of (by with_reducible assumption) (by with_reducible assumption) kzF kzN sub_refl)
    case qv =>
      intro h hh x hx
      simp only [List.nil_append, List.cons_append, List.mem_cons, List.not_mem_nil, or_false] at hx
      rcases hx with rfl | rfl | rfl | rfl
      · exact ⟨0, 0, _, _, _, _, _, _, _, _, _, rfl, .inl rfl, .inl rfl, (by k_mem), rfl, hh (_, tupOf [.ref _, .int 3 _] 0) (by k_mem), hh (_, listOf (List.toArray _) _) (by k_mem), hsv⟩
      · exact ⟨0, 1, _, _, _, _, _, _, _, _, _, rfl, .inl rfl, .inr rfl, (by k_mem), rfl, hh (_, tupOf [.ref _, .int 4 _] 0) (by k_mem), hh (_, listOf (List.toArray _) _) (by k_mem), hsv.reverse⟩
      · exact ⟨1, 0, _, _, _, _, _, _, _, _, _, rfl, .inr rfl, .inl rfl, (by k_mem), rfl, hh (_, tupOf [.ref _, .int 5 _] 0) (by k_mem), hh (_, listOf (List.toArray _) _) (by k_mem), hv⟩
      · exact ⟨1, 1, _, _, _, _, _, _, _, _, _, rfl, .inr rfl, .inr rfl, (by k_mem), rfl, hh (_, tupOf [.ref _, .int 6 _] 0) (by k_mem), hh (_, listOf (List.toArray _) _) (by k_mem), hv.reverse⟩
end
end

theorem words_of_L1 : True := by
  k_with "codeAny" => (((with_reducible show codeAny _ _ (Code.call (Value.ref 605) _) _ _); k_dflt (refine' llists (by assumption) (by k_extra "m stay") (by k_extra "m room") (by k_extra "m room") (by k_extra "m own") ?_); intros; k_extra "m upS"))
  exact trivial
section
namespace G_L2
theorem in_L2 : True := trivial
end G_L2
open G_L2
theorem TabO.mono {w : World} {KS KS' : List (Addr × Obj)} {o : Obj} {xs : List (List Int × Addr × Value)} (T : TabO w KS o xs) (h : ∀ p ∈ KS, p ∈ KS') : TabO w KS' o xs :=
  ⟨T.1, T.2.1, fun x hx => let ⟨ok, a, b⟩ := T.2.2.1 x hx; ⟨ok, h _ a, b⟩, T.2.2.2⟩
theorem TabO.empty {w : World} {KS : List (Addr × Obj)} {o : Obj} (hd : o.IsDictOf (intKind pw w) []) : TabO w KS o [] := by
  obtain ⟨es, ep, a, b, _, c, _⟩ := hd
  refine ⟨a, ⟨es, ep, b, ?_⟩, (fun _ hx => nomatch hx), List.nodup_nil⟩
  cases h : es.toList with
  | nil => rfl
  | cons e l => rw [h] at c; cases c
theorem ki_key {w : World} {es : Array DictEntry} {xs : List (List Int × Addr × Value)} {i : Nat} {e : DictEntry} (h : es.toList = xs.map (entryOfKey (tupleKind (intKind pw w)))) (he : es[i]? = some e) : ∃ k ka v, xs[i]? = some (k, ka, v) ∧ e.key = .ref ka := by
  rw [entry_at h i, Option.map_eq_some_iff] at he
  obtain ⟨⟨k, ka, v⟩, a, rfl⟩ := he
  exact ⟨k, ka, v, a, rfl⟩
/-- tables made so far; their objects lie in TL -/
structure Tbs (w : World) (xs ys : List (List Int × Addr × Value)) (i : Nat) (TL : List (Addr × Obj)) : Prop where
  keys : ys.map (·.1) = (xs.map (·.1)).take i
  tb : ∀ y ∈ ys, ∃ a b T, y.1 = [a, b] ∧ y.2.2 = .ref T ∧ ∀ h, Holds TL h → Tbl w h T (LS a b).1 (LS a b).2
theorem Tbs.snoc {w : World} {xs ys : List (List Int × Addr × Value)} {i : Nat} {TL TT : List (Addr × Obj)} {a b : Int} {ka T : Addr} {v : Value} (X : Tbs w xs ys i TL) (hx : xs[i]? = some ([a, b], ka, v)) (hT : ∀ h, Holds TT h → Tbl w h T (LS a b).1 (LS a b).2) : Tbs w xs (ys ++ [([a, b], ka, .ref T)]) (i + 1) (TL ++ TT) where
  keys := by rw [List.map_append, X.keys, List.take_add_one, List.getElem?_map, hx]; rfl
  tb := fun y hy => by
    rcases List.mem_append.mp hy with q | q
    · obtain ⟨a', b', T', e1, e2, e3⟩ := X.tb y q
      exact ⟨a', b', T', e1, e2, fun h hh => e3 h fun p hp => hh p (List.mem_append_left _ hp)⟩
    · rw [List.mem_singleton.mp q]
      exact ⟨a, b, T, rfl, rfl, fun h hh => hT h fun p hp => hh p (List.mem_append_right _ hp)⟩
theorem cnt_snoc {vs : List Value} {n ln i : Nat} {x : Int} {t : Tok} (h : IntsAre vs ((List.range i).map fun k => if k + 1 = ln then (n : Int) else 0)) (hx : x = if i + 1 = ln then (n : Int) else 0) : IntsAre (vs ++ [.int x t]) ((List.range (i + 1)).map fun k => if k + 1 = ln then (n : Int) else 0) := by
  rw [List.range_succ (n := i), List.map_append]
  exact ints_app h (hx ▸ .cons _ _ .nil)
theorem LS_ok {a b : Int} (ha : a = 0 ∨ a = 1) (hb : b = 0 ∨ b = 1) : (LS a b).1.Nodup ∧ (LS a b).1.length ≤ 16 ∧ (LS a b).1.length < 2 ^ (LS a b).2 ∧ 0 < (LS a b).2 ∧ (LS a b).2 ≤ 16 := by
  rcases ha with rfl | rfl <;> rcases hb with rfl | rfl <;> decide
theorem tabs_of {w : World} {h : Heap} {FD : Addr} {fo : Obj} {KB TL : List (Addr × Obj)} {xs ys : List (List Int × Addr × Value)} {n : Nat} (hT : TabO w KB fo ys) (hY : Tbs w xs ys n TL) (hn : xs.length ≤ n) (hk : xs.map (·.1) = [[0, 0], [0, 1], [1, 0], [1, 1]]) (hf : h.get? FD = some fo) (hK : Holds KB h) (hL : Holds TL h) : Tabs w h FD LS := by
  have hys : ys.map (·.1) = [[0, 0], [0, 1], [1, 0], [1, 1]] := by rw [hY.keys, List.take_of_length_le (by rw [List.length_map]; exact hn), hk]
  refine ⟨ys, hT.at hf hK, fun a b ha hb => ?_⟩
  have hm : [a, b] ∈ ys.map (·.1) := by rw [hys]; rcases ha with rfl | rfl <;> rcases hb with rfl | rfl <;> simp
  obtain ⟨y, hy, e⟩ := List.mem_map.mp hm
  obtain ⟨a', b', T, e1, e2, e3⟩ := hY.tb y hy
  rw [e1] at e
  obtain ⟨rfl, rfl⟩ : a' = a ∧ b' = b := by cases e; exact ⟨rfl, rfl⟩
  obtain ⟨i, hi⟩ := List.getElem?_of_mem hy
  obtain ⟨k, ka, v⟩ := y
  cases e1; cases e2
  exact ⟨ka, T, atKey_of_get (by rw [hys]; decide) hi, e3 h hL⟩
theorem new_key {w : World} {xs ys : List (List Int × Addr × Value)} {i : Nat} {TL : List (Addr × Obj)} {k : List Int} {p : Addr × Value} (hY : Tbs w xs ys i TL) (hn : (xs.map (·.1)).Nodup) (hx : xs[i]? = some (k, p)) : k ∉ ys.map (·.1) := fun q => by
  rw [hY.keys] at q
  have e : (xs.map (·.1))[i]? = some k := by rw [List.getElem?_map, hx]; rfl
  obtain ⟨j, hj, e2⟩ := List.getElem_of_mem q
  obtain ⟨hi, e3⟩ := List.getElem?_eq_some_iff.mp e
  rw [List.length_take] at hj
  rw [List.getElem_take] at e2
  have := (List.getElem_inj hn).mp (e2.trans e3.symm)
  (first | lia | omega)
theorem NqL.app {d : Nat} {A B : List (Addr × Obj)} (a : NqL d (A.map (·.1))) (b : NqL d (B.map (·.1))) : NqL d ((A ++ B).map (·.1)) := ⟨fun x hx => by
  rw [List.map_append] at hx
  exact (List.mem_append.mp hx).elim (a.h x) (b.h x)⟩
theorem line_72 : True := by
  k_with "m nqt" => (guard_expr in_L2 =~ in_L2; first | exact NqL.tl (NqL.tl (NqL.tl (NqL.tl (NqL.tl (NqL.tl (NqL.tl (by with_reducible assumption))))))) | exact NqL.tl (NqL.tl (NqL.tl (NqL.tl (NqL.tl (NqL.tl (NqL.tl (NqL.tl (by with_reducible assumption)))))))) | exact NqL.tl (NqL.tl (NqL.tl (NqL.tl (NqL.tl (NqL.tl (NqL.tl (NqL.tl (NqL.tl (by with_reducible assumption))))))))) | exact NqL.tl (NqL.tl (NqL.tl (NqL.tl (NqL.tl (NqL.tl (NqL.tl (NqL.tl (NqL.tl (NqL.tl (by with_reducible assumption)))))))))))
  exact trivial
theorem line_73 : True := by
  k_with "m upT" => (guard_expr in_L2 =~ in_L2; (k_dflt ((rename Step _ _ _ _ _ => kzS); (try dsimp only at kzS); (refine Step.updK (by k_asm) (by k_asm) kzS (by k_extra "m own") (by k_extra "m selB") ?_); (intro kzF kzN kzL); (dsimp only [List.map, List.nil_append, List.cons_append] at kzN kzL); (clear kzS)); (try k_sweep)))
  exact trivial
theorem line_74 : True := by
  k_with "codeAny" => (guard_expr in_L2 =~ in_L2; ((with_reducible show codeAny _ _ (Code.call (Value.ref 201) _) _ _); k_dflt (refine' ht_init (by assumption) (by k_extra "m stay") (by k_extra "m room") (by k_extra "m room") (by k_extra "m own") (by k_extra "m nq") (by assumption) (by assumption) (by k_extra "m rd") (by k_extra "m nqs") (by assumption) (by assumption) (by first | assumption | omega) (by assumption) ?_); intros; k_extra "m upT"))
  exact trivial
theorem line_75 : True := by
  k_with "call builtin:len" => (guard_expr in_L2 =~ in_L2; (k_here; k_dflt (refine' len_listB (by k_asm) (by assumption) (by assumption) (by (first | lia | omega)) ?_); intro kzu kzt))
  exact trivial
section
variable {w : World} {dp un : Nat} {fr : Option (List Env)} {gd : Option (List Code)} {h₀ : Heap} {s : Shared} {R : Result → Shared → Prop}
theorem ltables (C : Stc w h₀) (k : h₀.StaysIn s.heap) {X : Addr}
  {LD : Addr} {KB : List (Addr × Obj)} {xs : List (List Int × Addr × Value)} (hd : dp + 12 < recursionLimit) (hu : un + 150 < cLine) (O : News h₀ X s.heap ([])) (H : LX w h₀ LD KB xs)
  (ret : ∀ TD TT (h' : Heap) (tk' : Nat), (∀ h, Holds KB h → Holds TT h → Tabs w h TD LS) → Step X s.heap h' ([]) (TT) → R (.ok (.ret (.ref TD))) { s with heap := h', toks := tk' }) :
  codeAny (model pw w) (ar dp fr gd un) (.call (.ref 610) ⟨[.ref LD], []⟩) R s := by
  refine' beginX ([]) [(Str.ofString "lists", .ref LD)] (st := stm 41) C k (News.ent O) ?ho ?he ?hcd ?hroom ?hbind ?hsc ?hnd ?_
  case ho => k_is
  case he => exact rfl
  case hcd => k_is
  case hroom => exact lt_of_add hd
  case hbind => exact rfl
  case hsc => exact rfl
  case hnd => decide +kernel
  intro g L h₁ mean mg mb tk cells F N Y lS X₁ T₁ En C' K
  k_cells Y
  (try simp only [List.cons_append, List.nil_append] at N)
  have lS1 := NqL.of_add lS 1
  have lS2 := NqL.of_add lS 2
  dsimp only [List.map] at lS1 lS2
  k_lt lS
  have H' := H.keeps K
  obtain ⟨od, es, ep, e1, ex, ed, hes, _, _⟩ := id H'.D
  have e2 := H'.D
  replace F : Fr g L h₁ (fun y => if y = Str.ofString "lists" then some (.ref LD) else none) := F
  k_extra "k_steps"
  rename Fr _ _ _ _ => F5; rename News _ _ _ _ => N5
  rename_i c1 c2 dc1 dc2 _ _ FD _ fo lo9 _ _ hd9 _ l1 _
  have n1 : Nq FD (L + 1 + 1) := l1.hd.symm
  have n2 : Nq FD (L + 1) := l1.tl.hd.symm
  k_extra "m turns"
  k_extra "k_steps"
  rename Fr _ _ _ _ => F7; rename News _ _ _ _ => N7
  refine' for_keysB (fun i m news => ∃ fo ys TL c1 c2 u1, m = (fun y => if y = Str.ofString "found" then some (.ref FD) else if y = Str.ofString "key" then u1 else if y = Str.ofString "lists" then some (.ref LD) else none)
    ∧ news = (FD, fo) :: (L + 1 + 1, c1) :: (L + 1, c2) :: TL ∧ TabO w KB fo ys ∧ Tbs w xs ys i TL ∧ (∃ v, c1.data = .cell v) ∧ (∃ v, c2.data = .cell v) ∧ NqL FD (TL.map (·.1)) ∧ NqL (L + 1) (TL.map (·.1)) ∧ NqL (L + 1 + 1) (TL.map (·.1))) (by rfl) H'.lo e1 ⟨ex, ed⟩ F7 N7 ?h0 ?turn ?done
  case h0 => exact mk6 ⟨by k_extra "m map", rfl, TabO.empty hd9, ⟨by rw [List.take_zero]; rfl, fun _ hy => nomatch hy⟩, ⟨_, dc1⟩, ⟨_, dc2⟩, NqL.nil, NqL.nil, NqL.nil⟩
  case turn =>
    intro I i e m news h tk o lI he hJ hI F₁ N₁
    (with_reducible refine ex6 hJ ?_); clear hJ; intro fo ys TL c1 c2 u1 hJ
    (with_reducible refine conj9 hJ ?_); clear hJ; intro hm9 hn9 hT hY hc1 hc2 nFT n3 n4
    replace F₁ := Fr.cast hm9 F₁; replace N₁ := News.castT hn9 N₁; rw [hn9] at hI; replace hI := NqL.ofne hI; dsimp only [List.map] at hI; clear hm9 hn9
    obtain ⟨v1, hc1⟩ := hc1
    obtain ⟨v2, hc2⟩ := hc2
    obtain ⟨k, ka, v, hx, hk⟩ := ki_key hes he
    obtain ⟨a, b, ta, tb, n, tu, sl, vs, t, nn1, nn2, ee1, ha, hb, hkb, ee2, e3, e4, hvs⟩ := H'.val _ (List.mem_of_getElem? hx)
    have ee1 : k = [a, b] := ee1
    have ee2 : v = .ref tu := ee2
    subst ee1 ee2
    rw [hk]
    have e5 := H'.kb _ hkb
    have e6 := atKey_of_get (by rw [H'.keys]; decide) hx
    obtain ⟨hnd, hl16, hfw, hl0, hl1⟩ := LS_ok ha hb
    have hlv : vs.length = (LS a b).1.length := hvs.length
    have hln : 0 < (LS a b).2 ∧ (LS a b).2 ≤ 16 := ⟨hl0, hl1⟩
    k_lt lI
    k_extra "k_steps"
    rename_i s1 d1 _ s2 _ _ d2
    refine' comp_enter ?zcl ?zk ?zn ?_
    case zcl => exact rfl
    case zk => exact rfl
    case zn => decide +kernel
    k_extra "k_steps"
    rename IsRange _ _ _ _ _ _ _ _ => mR2; rename Fr _ _ _ _ => F5; rename News _ _ _ _ => N5
    refine' comp_range (n := 16) (fun j vals9 news => news = (I, o) :: (FD, fo) :: (L + 1 + 1, s2) :: (L + 1, s1) :: TL ∧ IntsAre vals9 ((List.range j).map fun k => if k + 1 = (LS a b).2 then (((LS a b).1.length : Nat) : Int) else 0)) (by rfl) (by decide +kernel) (by rfl) (by rfl) mR2 (by decide) (by rfl) (by (first | lia | omega)) F5 N5 ⟨rfl, .nil⟩ ?cturn ?cdone
    case cturn =>
      rintro I2 Cc D oL oI j t2 vals9 kD mc news h tk hj ⟨rfl, hv9⟩ hl F6 N6 a1 a2 a3 a4 a5 a6 a7
      replace a5 := NqL.of_off a5
      replace a6 := NqL.of_off a6
      replace a7 := NqL.of_off a7
      dsimp only [List.map, envOfC] at F6 N6 a1 a2 a4 a5 a6 a7
      k_extra "k_steps"
      k_extra "m junk"
      all_goals
        exact ⟨_, _, _, _, rfl, by assumption, News.sub (by assumption) (by k_extra "m sb"), by k_extra "m offs", by k_extra "m offs", by k_extra "m offs", rfl, cnt_snoc hv9 (by first | exact (if_pos (by (first | lia | omega))).symm | exact (if_neg (by (first | lia | omega))).symm)⟩
    case cdone =>
      rintro D h tk vals9 kD news hl ⟨rfl, hv9⟩ F6 N6 a1
      replace a1 := NqL.of_off a1
      dsimp only [List.map] at a1
      have hv9 : IntsAre vals9 (cnt (LS a b).1.length (LS a b).2) := hv9
      k_extra "k_steps"
      rename_i TT _ _ hTT
      have q1 : NqL FD ((TL ++ TT).map (·.1)) := NqL.app nFT (by k_extra "m nqt")
      have q2 : NqL (L + 1) ((TL ++ TT).map (·.1)) := NqL.app n3 (by k_extra "m nqt")
      have q3 : NqL (L + 1 + 1) ((TL ++ TT).map (·.1)) := NqL.app n4 (by k_extra "m nqt")
      have q4 : NqL I ((TL ++ TT).map (·.1)) := NqL.app hI.tl.tl.tl (by k_extra "m nqt")
      have m1 : Nq FD I := hI.hd
      have m2 : Nq (L + 1 + 1) I := hI.tl.hd
      have m3 : Nq (L + 1) I := hI.tl.tl.hd
      have hyl : ys.length ≤ 100 := by
        have z := congrArg List.length hY.keys
        rw [List.length_map, H'.keys, List.length_take] at z
        have z2 : [[(0 : Int), 0], [0, 1], [1, 0], [1, 1]].length = 4 := rfl
        (first | lia | omega)
      have hnk := new_key hY (by rw [H'.keys]; decide) hx
      refine' put_tup (KS := KB) kzF kzN (by k_updF) hT (fun p hp => Fr.keep kzF _ _ (H'.kb p hp)) (Fr.keep kzF _ _ e5) key2 hnk hyl (by k_extra "m room") ?_
      intro h' fo' tk' F9 N9 hT9
      (try dsimp only at N9)
      k_extra "k_steps"
      refine' TEnd.nextF F9 (News.sub N9 (S := (I, o) :: (FD, fo') :: (L + 1 + 1, s2) :: (L + 1, s1) :: (TL ++ TT)) (by k_extra "m sb")) ?zo (mk6 (a2 := TL ++ TT) ⟨?zm, rfl, hT9.mono (List.forall_mem_cons.mpr ⟨hkb, fun p hp => hp⟩), hY.snoc hx hTT, ⟨_, d2⟩, ⟨_, d1⟩, q1, q2, q3⟩)
      case zo => k_extra "m off"
      case zm => k_extra "m map"
  case done =>
    intro m news h tk hJ F₁ N₁
    (with_reducible refine ex6 hJ ?_); clear hJ; intro fo ys TL c1 c2 u1 hJ
    (with_reducible refine conj9 hJ ?_); clear hJ; intro hm9 hn9 hT hY hc1 hc2 nFT n3 n4
    replace F₁ := Fr.cast hm9 F₁; replace N₁ := News.cast hn9 N₁; clear hm9 hn9
    k_extra "k_steps"
    refine' ret FD _ _ _ (fun h hk hh => tabs_of hT hY ?qn H'.keys (hh _ (.head _)) hk fun p hp => hh p (.tail _ (.tail _ (.tail _ hp)))) (Step.of (by with_reducible assumption) (by with_reducible assumption) F₁ N₁ sub_refl)
    case qn => rw [size_of_entries hes]; exact Nat.le_refl _
end
end

theorem words_of_L2 : True := by
  k_with "codeAny" => (((with_reducible show codeAny _ _ (Code.call (Value.ref 610) _) _ _); k_dflt (refine' ltables (by assumption) (by k_extra "m stay") (by k_extra "m room") (by k_extra "m room") (by k_extra "m own") (by assumption) ?_); intros; k_extra "m upS"))
  exact trivial
section
namespace G_Jg
theorem in_Jg : True := trivial
end G_Jg
open G_Jg
theorem line_76 : True := by
  k_with "call builtin:len" => (guard_expr in_Jg =~ in_Jg; (k_here; k_dflt (refine' len_listB (by k_asm) (by assumption) (by assumption) (by (first | lia | omega)) ?_); intro kzu kzt))
  exact trivial
section
variable {w : World} {dp un : Nat} {fr : Option (List Env)} {gd : Option (List Code)} {h₀ : Heap} {s : Shared} {R : Result → Shared → Prop}
theorem ljug (C : Stc w h₀) (k : h₀.StaysIn s.heap) {X : Addr}
  {sc : Addr} {vs : List Value} {ns : List Int} {n : Nat} (hd : dp + 4 < recursionLimit) (hu : un + 40 < cLine) (O : News h₀ X s.heap ([])) (hs : s.heap.get? sc = some (listOf (List.toArray vs) n)) (hv : IntsAre vs ns) (hl : vs.length ≤ 1000)
  (ret : ∀ J x y t1 t2 n1 (h' : Heap) (tk' : Nat), Step X s.heap h' ([]) ([(J, listOf #[.int x t1, .int y t2] n1)]) → R (.ok (.ret (.ref J))) { s with heap := h', toks := tk' }) :
  codeAny (model pw w) (ar dp fr gd un) (.call (.ref 593) ⟨[.ref sc], []⟩) R s := by
  refine' begin ([]) [(Str.ofString "script", .ref sc)] (st := stm 38) C k (News.ent O) ?ho ?he ?hcd ?hroom ?hbind ?hsc ?_
  case ho => k_is
  case he => exact rfl
  case hcd => k_is
  case hroom => exact lt_of_add hd
  case hbind => exact rfl
  case hsc => exact rfl
  intro g L h₁ mean mg mb tk F N X₁ T₁ En C' K
  have e1 := En.ro (a := sc) NqL.nil hs
  cases hv with
  | nil =>
    have e2 : ([] : List Value).length = 0 := rfl
    k_extra "k_steps"
    all_goals exact ret _ _ _ _ _ _ _ _ (by k_extra "m step")
  | cons i t hv =>
    rename_i vs ns
    have e2 : (Value.int i t :: vs).length = vs.length + 1 := rfl
    have e3 : vs.length ≤ 1000 := by rw [e2] at hl; (first | lia | omega)
    k_extra "k_steps"
    all_goals exact ret _ _ _ _ _ _ _ _ (by k_extra "m step")
end
end

theorem words_of_Jg : True := by
  k_with "codeAny" => (((with_reducible show codeAny _ _ (Code.call (Value.ref 593) _) _ _); k_dflt (refine' ljug (by assumption) (by k_extra "m stay") (by k_extra "m room") (by k_extra "m room") (by k_extra "m own") (by k_extra "m rd") (by assumption) (by first | assumption | omega) ?_); intros; k_extra "m upS"))
  exact trivial
section
theorem hold_sub {T T' : List (Addr × Obj)} {h : Heap} (H : Holds T h) (s : ∀ p ∈ T', p ∈ T) : Holds T' h := fun p hp => H p (s p hp)
theorem rebase {w : World} {s : Shared} {h₀ : Heap} {X : Addr} {l S T : List (Addr × Obj)} (C : Stc w h₀) (k : h₀.StaysIn s.heap) (O : News h₀ X s.heap l) (hS : ∀ p ∈ S, p ∈ l) (hT : ∀ p ∈ T, p ∈ l) (A : Apt (T.map (·.1)) (S.map (·.1))) :
    ∃ h₁, Stc w h₁ ∧ h₁.StaysIn s.heap ∧ News h₁ X s.heap S ∧ Holds T h₁ := by
  obtain ⟨mean, mg, mb, T₁⟩ := C.T
  have nm : ∀ b o, h₀.get? b = some o → b ∉ S.map (·.1) := fun b o e q => by
    obtain ⟨p, hp, rfl⟩ := List.mem_map.mp q
    rw [(O p (hS p hp)).2.2] at e; cases e
  have kg : h₀.StaysIn (hideAll s.heap (S.map (·.1))) := fun b o e => hideAll_get _ (k b o e) (nm b o e)
  have C1 : Stc w (hideAll s.heap (S.map (·.1))) := ⟨C.X.keeps kg, mean, mg, mb, T₁.keeps kg⟩
  exact ⟨_, C1, fun b o e => of_hideAll _ e, fun p hp => ⟨(O p (hS p hp)).1, (O p (hS p hp)).2.1, hideAll_none _ (List.mem_map_of_mem hp)⟩,
    fun p hp => hideAll_get _ (O p (hT p hp)).1 fun q => A.h _ (List.mem_map_of_mem hp) _ q rfl⟩
/-- what the law has made: read-only objects, and the bundle -/
inductive Law (w : World) (v r sc TD LD : Addr) (many : Nat) (q : Bool) (ds as : Nat → Int) (en : Int) (low : Nat) : List (Addr × Obj) → Prop
  | mk (T CL : List (Addr × Obj)) (HT : ∀ h, Holds T h → Tabs w h TD LS ∧ Lsts w h LD LS ∧ ScanAt w h sc many ds as en low) (HC : CB w v r sc TD many q [] none [] CL) (A : Apt (T.map (·.1)) (CL.map (·.1))) : Law w v r sc TD LD many q ds as en low (T ++ CL)
section
variable {h₀ h h' : Heap} {X : Addr} {T CL CL' : List (Addr × Obj)}
theorem setL (O : News h₀ X h (T ++ CL)) (St : Step X h h' CL CL') (A : Apt (T.map (·.1)) (CL.map (·.1))) : Step X h h' (T ++ CL) (T ++ CL') ∧ Apt (T.map (·.1)) (CL'.map (·.1)) :=
  ⟨St.frame (T := T) A.symm (fun p hp => (O p (List.mem_append_left _ hp)).1) (News.off O) (fun _ hp => List.mem_append_right _ hp) (fun _ hp => List.mem_append_left _ hp) fun _ hp => (List.mem_append.mp hp).symm,
    (Apt.step St A.symm fun p hp => (O p (List.mem_append_left _ hp)).1).symm⟩
theorem setJ {j j' : Addr × Obj} (O : News h₀ X h (j :: (T ++ CL))) (St : Step X h h' (j :: CL) (j' :: CL')) (e : j'.1 = j.1) (A : Apt (T.map (·.1)) (CL.map (·.1))) (nj : NqL j.1 ((T ++ CL).map (·.1))) : Step X h h' (j :: (T ++ CL)) (j' :: (T ++ CL')) ∧ Apt (T.map (·.1)) (CL'.map (·.1)) := by
  have hT : ∀ p ∈ T, h.get? p.1 = some p.2 := fun p hp => (O p (.tail _ (List.mem_append_left _ hp))).1
  have A0 : Apt ((j :: CL).map (·.1)) (T.map (·.1)) := ⟨fun x hx y hy => by
    rcases List.mem_cons.mp hx with rfl | hx
    · exact (nj.h y (by rw [List.map_append]; exact List.mem_append_left _ hy)).symm
    · exact (A.h y hy x hx).symm⟩
  have A1 := Apt.step St A0 hT
  refine ⟨St.frame (T := T) A0 hT (News.off O) (fun p hp => ?_) (fun p hp => .tail _ (List.mem_append_left _ hp)) (fun p hp => ?_), ⟨fun x hx y hy => (A1.h y (.tail _ hy) x hx).symm⟩⟩
  · rcases List.mem_cons.mp hp with rfl | hp
    · exact .head _
    · exact .tail _ (List.mem_append_right _ hp)
  · rcases List.mem_cons.mp hp with rfl | hp
    · exact .inl (.head _)
    · rcases List.mem_append.mp hp with z | z
      · exact .inr z
      · exact .inl (.tail _ z)
end
section
variable {w : World} {dp un : Nat} {fr : Option (List Env)} {gd : Option (List Code)} {h₀ : Heap} {s : Shared} {R : Result → Shared → Prop}
theorem ltabT (C : Stc w h₀) (k : h₀.StaysIn s.heap) {X : Addr} {LD : Addr} {KB T : List (Addr × Obj)} {xs : List (List Int × Addr × Value)} (hd : dp + 12 < recursionLimit) (hu : un + 150 < cLine) (hT : ∀ h, Holds T h → LX w h LD KB xs) (hK : ∀ p ∈ KB, p ∈ T) (O : News h₀ X s.heap T)
  (ret : ∀ TD TT (h' : Heap) (tk' : Nat), (∀ h, Holds (TT ++ T) h → Tabs w h TD LS) → Step X s.heap h' T (TT ++ T) → R (.ok (.ret (.ref TD))) { s with heap := h', toks := tk' }) :
  codeAny (model pw w) (ar dp fr gd un) (.call (.ref 610) ⟨[.ref LD], []⟩) R s := by
  obtain ⟨h₁, C1, k1, O1, H1⟩ := rebase (S := []) (T := T) C k O (fun _ h => nomatch h) (fun _ h => h) ⟨fun _ _ _ h => nomatch h⟩
  refine ltables C1 k1 hd hu O1 (hT h₁ H1) fun TD TT h' tk' H St => ret TD TT h' tk' (fun h hh => H h (hold_sub hh fun p hp => List.mem_append_right _ (hK p hp)) (hold_sub hh fun p hp => List.mem_append_left _ hp)) ?_
  exact St.frame (T := T) ⟨fun _ h => nomatch h⟩ (fun p hp => (O p hp).1) (News.off O) (fun _ h => nomatch h) (fun _ h => h) fun p hp => List.mem_append.mp hp
theorem law_start (C : Stc w h₀) (k : h₀.StaysIn s.heap) {X : Addr} {v r sc TD LD : Addr} {many low : Nat} {q : Bool} {ds as : Nat → Int} {en : Int} {ZL : List (Addr × Obj)} (hd : dp + 4 < recursionLimit) (hu : un + 40 < cLine) (HL : Law w v r sc TD LD many q ds as en low ZL) (O : News h₀ X s.heap ZL)
  (ret : ∀ ZL' (h' : Heap) (tk' : Nat), Law w v r sc TD LD many q ds as en low ZL' → Step X s.heap h' ZL ZL' → R (.ok (.ret .none)) { s with heap := h', toks := tk' }) :
  codeAny (model pw w) (ar dp fr gd un) (.call (.ref 42) ⟨[.ref v], []⟩) R s := by
  obtain ⟨T, CL, HT, HC, A⟩ := HL
  obtain ⟨h₁, C1, k1, O1, H1⟩ := rebase (S := CL) (T := T) C k O (fun _ h => List.mem_append_right _ h) (fun _ h => List.mem_append_left _ h) A
  obtain ⟨H2, H3, H4⟩ := HT h₁ H1
  exact cb_start (ls := LS) C1 k1 hd hu HC O1 H4 fun CL' h' tk' HC' St => let ⟨a, b⟩ := setL O St A; ret _ _ _ (.mk T CL' HT HC' b) a
theorem law_finish (C : Stc w h₀) (k : h₀.StaysIn s.heap) {X : Addr} {v r sc TD LD : Addr} {many low : Nat} {q : Bool} {ds as : Nat → Int} {en : Int} {ZL : List (Addr × Obj)} (hd : dp + 14 < recursionLimit) (hu : un + 180 < cLine) (HL : Law w v r sc TD LD many q ds as en low ZL) (O : News h₀ X s.heap ZL)
  (ret : ∀ tb ZL' (h' : Heap) (tk' : Nat), Law w v r sc TD LD many q ds as en low ZL' → Step X s.heap h' ZL ZL' → R (.ok (.ret (.bytes #[] tb))) { s with heap := h', toks := tk' }) :
  codeC (model pw w) (ar dp fr gd un) (.call (.ref 56) ⟨[.ref v], []⟩) R s := by
  obtain ⟨T, CL, HT, HC, A⟩ := HL
  obtain ⟨h₁, C1, k1, O1, H1⟩ := rebase (S := CL) (T := T) C k O (fun _ h => List.mem_append_right _ h) (fun _ h => List.mem_append_left _ h) A
  obtain ⟨H2, H3, H4⟩ := HT h₁ H1
  refine cb_finish C1 k1 hd hu HC O1 (by decide) fun F tb CL' h' tk' e1 e2 HC' St => ?_
  have hF : F = [] := by
    have z : 8 * F.length = 0 := by rw [← octs_length, e1]; rfl
    exact List.eq_nil_of_length_eq_zero (by (first | lia | omega))
  subst hF
  obtain ⟨a, b⟩ := setL O St A
  exact ret tb _ _ _ (.mk T CL' HT HC' b) a
end
end
section
namespace G_Iv
theorem in_Iv : True := trivial
end G_Iv
open G_Iv
section
variable {prog : Program} {w : World} {A : Around} {s : Shared} {env : Env} {g : Heap}
theorem comp_rangeV {elt iter : Expr} {x : Str} {px : Pos} {scope : Scope} {pos : Pos} {cl : List (Str × Addr)} {r : Addr} {a₀ b₀ : Int} {t₀ u₀ v₀ : Tok} {n : Nat} {m : Str → Option Value} {news : List (Addr × Obj)} {y : Str} {py : Pos} (J : Nat → List Value → List (Addr × Obj) → Prop)
    (hh : A.handled = none) (hcell : ∀ y ∈ scope.names, y.2 ≠ .cell) (hkind : scope.kind = .function) (hx : scope.names.lookup x = some .local)
    (hr : IsRange s.heap r a₀ b₀ 1 t₀ u₀ v₀) (hsmall : Builtin.Range.small a₀ b₀ 1 = true) (hn : Builtin.Range.rangeSize a₀ b₀ 1 = (n : Int)) (hn2 : n ≤ 1000) (F : Fr g env.locals s.heap m) (N : News g env.locals s.heap news) (h0 : J 0 [] news)
    (turn : ∀ (I C D : Addr) (oL oI : Obj) (i : Nat) (t : Tok) (vals : List Value) (kD : Nat) (mc : Str → Option Value) (news₁ : List (Addr × Obj)) (h : Heap) (tk : Nat), i < n → J i vals news₁ → vals.length = i → Fr g C h (fun y => if y = x then some (.int (a₀ + (i : Nat)) t) else mc y) → News g C h ((env.locals, oL) :: (D, listOf vals.toArray kD) :: (I, oI) :: news₁) →
      Nq env.locals D → Nq env.locals I → Nq D I → Nq C env.locals → Off env.locals news₁ → Off D news₁ → Off I news₁ →
      wpAny (model prog w) A (eval elt (compEnvC scope cl C env)) (CEnd g env.locals C D I oL oI vals kD (J (i + 1)) { s with heap := h, toks := tk }) NoX { s with heap := h, toks := tk })
    (hy : env.kindOf y = some .local) (hp : (env.scope.kind == .class || (env.scope.kind == .module && env.locals != env.globals)) = false)
    {Q : Shared → Prop} (done : ∀ D h' tk' vals kD news', vals.length = n → J n vals news' → Fr g env.locals h' (fun z => if z = y then some (.ref D) else m z) → News g env.locals h' ((D, listOf vals.toArray kD) :: news') → Off D news' → Q { s with heap := h', toks := tk' }) :
    wpAny (model prog w) A (pyIter (.ref r)) (fun it s₂ => wpAny (model prog w) A (newList []) (fun acc s₃ => wpAny (model prog w) A (newFunctionEnv scope env.globals cl [] env.qual none .none (some env)) (fun cenv s₄ =>
      codeAny (model prog w) A (.compStart (.ListComp elt [⟨.Name x px, iter, [], 0⟩] scope pos) 0 it acc { cenv with scope := relabel scope env }) (compPost (model prog w) A NoX (some (assign (.Name y py) env)) (fun _ s' => Q s') acc cenv.locals) s₄) NoX s₃) NoX s₂) NoX s :=
  comp_rangeU (Q := fun _ s' => Q s') J hh hcell hkind hx hr hsmall hn hn2 F N h0 turn hy hp done
end
theorem CB.add {w : World} {v r sc TD : Addr} {many : Nat} {q : Bool} {B : List Int} {rs : Option (List Int × Nat)} {bs : List Blk} {l : List (Addr × Obj)} (H : CB w v r sc TD many q B rs bs l) (b : Blk) (ok : b.OK many) (n1 : NqL b.t (l.map (·.1))) (n2 : NqL b.row (l.map (·.1))) :
    ∃ l', CB w v r sc TD many q B rs (bs ++ [b]) l' ∧ ∀ p ∈ l', p ∈ b.tup :: b.lst :: l := by
  obtain ⟨WB, RB, DW, DR, A1, A2, A3, ok'⟩ := H
  have e : blO (bs ++ [b]) = blO bs ++ [b.tup, b.lst] := by simp [blO]
  have f : ∀ {S : List (Addr × Obj)}, (∀ p ∈ S, p ∈ WB ++ (RB ++ blO bs)) → Apt (S.map (·.1)) ((blO bs).map (·.1)) → Apt (S.map (·.1)) ((blO (bs ++ [b])).map (·.1)) := fun {S} hs A => by
    rw [e, List.map_append]
    refine A.app ⟨fun x hx y hy => ?_⟩
    obtain ⟨p, hp, rfl⟩ := List.mem_map.mp hx
    rcases List.mem_cons.mp hy with rfl | hy
    · exact n1.h _ (List.mem_map_of_mem (hs p hp))
    · rw [List.mem_singleton.mp hy]; exact n2.h _ (List.mem_map_of_mem (hs p hp))
  refine ⟨_, .mk WB RB DW DR A1 (f (fun p hp => List.mem_append_left _ hp) A2) (f (fun p hp => List.mem_append_right _ (List.mem_append_left _ hp)) A3) (fun b' hb => (List.mem_append.mp hb).elim (ok' b') fun z => (List.mem_singleton.mp z) ▸ ok), fun p hp => ?_⟩
  rw [e] at hp
  rcases List.mem_append.mp hp with z | z
  · exact .tail _ (.tail _ (List.mem_append_left _ z))
  · rcases List.mem_append.mp z with z | z
    · exact .tail _ (.tail _ (List.mem_append_right _ (List.mem_append_left _ z)))
    · rcases List.mem_append.mp z with z | z
      · exact .tail _ (.tail _ (List.mem_append_right _ (List.mem_append_right _ z)))
      · rcases List.mem_cons.mp z with rfl | z
        · exact .head _
        · rw [List.mem_singleton.mp z]; exact .tail _ (.head _)
theorem CB.isL {w : World} {v r sc TD : Addr} {many : Nat} {q : Bool} {B : List Int} {rs : Option (List Int × Nat)} {bs : List Blk} {l news : List (Addr × Obj)} {b : Blk} {g h : Heap} {L : Addr} (H : CB w v r sc TD many q B rs bs l) (hb : b ∈ bs) (N : News g L h news) (sub : ∀ p ∈ l, p ∈ news) : h.IsList b.row (List.toArray [.int b.r0 b.v0, .int b.r1 b.v1, .int b.r2 b.v2, .int b.r3 b.v3]) := News.isList N (sub _ (H.lst hb))
theorem News.app {g h : Heap} {L : Addr} {A B : List (Addr × Obj)} (a : News g L h A) (b : News g L h B) : News g L h (A ++ B) := fun p hp => (List.mem_append.mp hp).elim (a p) (b p)
theorem chainX {w h r' p u1 u2 u3 u4 : Option Value} {c : Str → Option Value} : (fun y => if y = Str.ofString "wanted" then w else if y = Str.ofString "held" then h else if y = Str.ofString "row" then r' else if y = Str.ofString "place" then p else if y = Str.ofString "place" then u1 else if y = Str.ofString "row" then u2 else if y = Str.ofString "held" then u3 else if y = Str.ofString "wanted" then u4 else c y) = fun y => if y = Str.ofString "place" then p else if y = Str.ofString "row" then r' else if y = Str.ofString "held" then h else if y = Str.ofString "wanted" then w else c y := by
  k_extra "m map"
theorem CB.drop {w : World} {v r sc TD : Addr} {many : Nat} {q : Bool} {B : List Int} {rs : Option (List Int × Nat)} {bs : List Blk} {l : List (Addr × Obj)} (H : CB w v r sc TD many q B rs bs l) : ∃ l', CB w v r sc TD many q B rs [] l' ∧ ∀ p ∈ l', p ∈ l := by
  obtain ⟨WB, RB, DW, DR, A1, A2, A3, ok'⟩ := H
  refine ⟨_, .mk WB RB DW DR A1 ⟨fun _ _ _ h => nomatch h⟩ ⟨fun _ _ _ h => nomatch h⟩ (fun _ h => nomatch h), fun p hp => ?_⟩
  rcases List.mem_append.mp hp with z | z
  · exact List.mem_append_left _ z
  · rcases List.mem_append.mp z with z | z
    · exact List.mem_append_right _ (List.mem_append_left _ z)
    · exact absurd z (by simp [blO])
theorem nql9 {x : Nat} {l l' : List (Addr × Obj)} {a b : Addr × Obj} (h : ∀ p ∈ l', p ∈ a :: b :: l) (n : NqL x (l.map (·.1))) (na : Nq a.1 x) (nb : Nq b.1 x) : NqL x (l'.map (·.1)) := ⟨fun y hy => by
  obtain ⟨p, hp, rfl⟩ := List.mem_map.mp hy
  rcases List.mem_cons.mp (h p hp) with rfl | z
  · exact na
  · rcases List.mem_cons.mp z with rfl | z
    · exact nb
    · exact n.h _ (List.mem_map_of_mem z)⟩
theorem two_four {g h : Heap} {L a b : Addr} {news : List (Addr × Obj)} {x y p q r s : Value} {n m : Nat} (N : News g L h news) (ha : (a, listOf #[x, y] n) ∈ news) (hb : (b, listOf #[p, q, r, s] m) ∈ news) : Nq a b := fun e => by
  have h1 := (N _ ha).1
  have h2 := (N _ hb).1
  rw [e] at h1
  have e2 := Option.some.inj (h1.symm.trans h2)
  have e3 := congrArg (fun o : Obj => match o.data with | .seq z _ => z.size | _ => 0) e2
  exact absurd e3 (by simp)
theorem NqL.more {x : Nat} {l l' : List (Addr × Obj)} (n : NqL x (l.map (·.1))) (h : ∀ p ∈ l', p ∈ l) : NqL x (l'.map (·.1)) := ⟨fun y hy => by
  obtain ⟨p, hp, rfl⟩ := List.mem_map.mp hy
  exact n.h _ (List.mem_map_of_mem (h p hp))⟩
theorem dirW_in {w : World} {v sc TD : Addr} {many : Nat} {q : Bool} {B : List Int} {BB : List (Addr × Obj)} (h : DirW w v sc TD many B q BB) : ∃ dx y k1 k2 tm, (v, instObj 59 dx) ∈ BB ∧ (dx, dirD w y many k1 k2 tm) ∈ BB := by
  cases h with
  | dc DW => obtain ⟨⟩ := DW; exact ⟨_, _, _, _, _, .head _, .tail _ (.head _)⟩
  | sq DW => obtain ⟨⟩ := DW; exact ⟨_, _, _, _, _, .head _, .tail _ (.head _)⟩
theorem dirR_in {w : World} {r sc TD : Addr} {many : Nat} {q : Bool} {rs : Option (List Int × Nat)} {BB : List (Addr × Obj)} (h : DirR w r sc TD many rs q BB) : ∃ dx y k1 k2 tm, (r, instObj 101 dx) ∈ BB ∧ (dx, dirD w y many k1 k2 tm) ∈ BB := by
  cases h with
  | dc0 DW => obtain ⟨⟩ := DW; exact ⟨_, _, _, _, _, .head _, .tail _ (.head _)⟩
  | sq0 DW => obtain ⟨⟩ := DW; exact ⟨_, _, _, _, _, .head _, .tail _ (.head _)⟩
  | dc DW => obtain ⟨⟩ := DW; exact ⟨_, _, _, _, _, .head _, .tail _ (.head _)⟩
  | sq DW => obtain ⟨⟩ := DW; exact ⟨_, _, _, _, _, .head _, .tail _ (.head _)⟩
section
variable {w : World} {v r sc TD : Addr} {many : Nat} {q : Bool} {B : List Int} {rs : Option (List Int × Nat)} {bs : List Blk} {l : List (Addr × Obj)}
theorem CB.inW (h : CB w v r sc TD many q B rs bs l) : ∃ dx y k1 k2 tm, (v, instObj 59 dx) ∈ l ∧ (dx, dirD w y many k1 k2 tm) ∈ l := by
  obtain ⟨WB, RB, DW, DR, A1, A2, A3, ok⟩ := h
  obtain ⟨dx, y, k1, k2, tm, a, b⟩ := dirW_in DW
  exact ⟨dx, y, k1, k2, tm, List.mem_append_left _ a, List.mem_append_left _ b⟩
theorem CB.inR (h : CB w v r sc TD many q B rs bs l) : ∃ dx y k1 k2 tm, (r, instObj 101 dx) ∈ l ∧ (dx, dirD w y many k1 k2 tm) ∈ l := by
  obtain ⟨WB, RB, DW, DR, A1, A2, A3, ok⟩ := h
  obtain ⟨dx, y, k1, k2, tm, a, b⟩ := dirR_in DR
  exact ⟨dx, y, k1, k2, tm, List.mem_append_right _ (List.mem_append_left _ a), List.mem_append_right _ (List.mem_append_left _ b)⟩
theorem cbw_start (h : CB w v r sc TD many q B rs bs l) : Inst0 l v 59 (Str.ofString "start") := by
  obtain ⟨dx, y, k1, k2, tm, a, b⟩ := h.inW
  exact ⟨dx, _, _, a, b, by k_get⟩
theorem cbw_code (h : CB w v r sc TD many q B rs bs l) : Inst0 l v 59 (Str.ofString "code") := by
  obtain ⟨dx, y, k1, k2, tm, a, b⟩ := h.inW
  exact ⟨dx, _, _, a, b, by k_get⟩
theorem cbw_finish (h : CB w v r sc TD many q B rs bs l) : Inst0 l v 59 (Str.ofString "finish") := by
  obtain ⟨dx, y, k1, k2, tm, a, b⟩ := h.inW
  exact ⟨dx, _, _, a, b, by k_get⟩
theorem cbr_start (h : CB w v r sc TD many q B rs bs l) : Inst0 l r 101 (Str.ofString "start") := by
  obtain ⟨dx, y, k1, k2, tm, a, b⟩ := h.inR
  exact ⟨dx, _, _, a, b, by k_get⟩
theorem cbr_read (h : CB w v r sc TD many q B rs bs l) : Inst0 l r 101 (Str.ofString "read") := by
  obtain ⟨dx, y, k1, k2, tm, a, b⟩ := h.inR
  exact ⟨dx, _, _, a, b, by k_get⟩
theorem cbr_finish (h : CB w v r sc TD many q B rs bs l) : Inst0 l r 101 (Str.ofString "finish") := by
  obtain ⟨dx, y, k1, k2, tm, a, b⟩ := h.inR
  exact ⟨dx, _, _, a, b, by k_get⟩
end
def figs (ls : Int → Int → List Int × Nat) (ds as : Nat → Int) (low : Nat) (q : Bool) (bs : List Blk) (j : Nat) : List Int := (bs.take j).flatMap (blk ls ds as low q)
theorem figs_succ {ls : Int → Int → List Int × Nat} {ds as : Nat → Int} {low : Nat} {q : Bool} {bs : List Blk} {j : Nat} {b : Blk} (h : bs[j]? = some b) : figs ls ds as low q bs (j + 1) = figs ls ds as low q bs j ++ blk ls ds as low q b := by
  unfold figs; rw [List.take_add_one, h, List.flatMap_append]; simp
theorem figs_drop {ls : Int → Int → List Int × Nat} {ds as : Nat → Int} {low : Nat} {q : Bool} {bs : List Blk} {j : Nat} {b : Blk} {P : List Int} (h : bs[j]? = some b) (hP : P = padded (figs ls ds as low q bs bs.length)) : ∃ rest, P.drop (figs ls ds as low q bs j).length = blk ls ds as low q b ++ rest := by
  have e : figs ls ds as low q bs bs.length = figs ls ds as low q bs j ++ (bs.drop j).flatMap (blk ls ds as low q) := by
    unfold figs; rw [List.take_length, ← List.flatMap_append, List.take_append_drop]
  have e2 : bs.drop j = b :: bs.drop (j + 1) := by
    obtain ⟨hj, e3⟩ := List.getElem?_eq_some_iff.mp h
    rw [← e3]; exact List.drop_eq_getElem_cons hj
  refine ⟨(bs.drop (j + 1)).flatMap (blk ls ds as low q) ++ List.replicate ((8 - (figs ls ds as low q bs bs.length).length % 8) % 8) 1, ?_⟩
  rw [hP, padded, e, e2, List.flatMap_cons, List.append_assoc, List.append_assoc, List.drop_left]
theorem bInts_oct {F : List Int} (o : Oct F) : KBw.bInts (byteArr F) = F := KBa.ints_make o
theorem ne_same {prog : Program} {w : World} {A : Around} {E : Value → Shared → Prop} {s : Shared} {F F' P : List Int} {t t' : Tok} {Q : Value → Shared → Prop} (o : Oct F) (o' : Oct F') (e : octs F = P) (e' : octs F' = P) (h : Q (.bool false) s) : wpAny (model prog w) A (compareOp .NotEq (.bytes (byteArr F) t) (.bytes (byteArr F') t')) Q E s := by
  obtain rfl := octs_inj o o' (e.trans e'.symm)
  exact ne_bytes (by simpa using h)
theorem lists_same {prog : Program} {w : World} {A : Around} {E : Value → Shared → Prop} {s : Shared} {a b : Addr} {xs ys : List Value} {ns : List Int} {Q : Value → Shared → Prop} (ha : s.heap.IsList a xs.toArray) (hb : s.heap.IsList b ys.toArray) (hi : IntsAre xs ns) (hj : IntsAre ys ns) (hu : A.units + 64 < cLine) (h : Q (.bool false) s) : wpAny (model prog w) A (compareOp .NotEq (.ref a) (.ref b)) Q E s :=
  ke_ne_ints ha hb hi hj hu (by simpa using h)
theorem figs_le {ls : Int → Int → List Int × Nat} {ds as : Nat → Int} {low : Nat} {q : Bool} {bs : List Blk} {j : Nat} : (figs ls ds as low q bs j).length ≤ (figs ls ds as low q bs bs.length).length := by
  have e : figs ls ds as low q bs bs.length = figs ls ds as low q bs j ++ (bs.drop j).flatMap (blk ls ds as low q) := by
    unfold figs; rw [List.take_length, ← List.flatMap_append, List.take_append_drop]
  rw [e, List.length_append]; (first | lia | omega)
theorem figs_01 {ls : Int → Int → List Int × Nat} {ds as : Nat → Int} {low : Nat} {q : Bool} {bs : List Blk} {j : Nat} : ∀ c ∈ figs ls ds as low q bs j, c = 0 ∨ c = 1 := fun c hc => by
  obtain ⟨b, _, hb⟩ := List.mem_flatMap.mp hc
  have cod01 : ∀ a b r v, ∀ c ∈ cod ls a b r v, c = 0 ∨ c = 1 := fun a b r v c hc => by
    unfold cod at hc
    rcases List.mem_append.mp hc with z | z
    · exact fig_01 _ _ c z
    · exact fig_01 _ _ c z
  unfold blk at hb
  cases q with
  | true => exact cod01 _ _ _ _ c hb
  | false =>
    rcases List.mem_append.mp hb with z | z
    · exact cod01 _ _ _ _ c z
    · have h0 : ∀ (rs : List Int) (st : List Int × Int), (∀ c ∈ st.1, c = 0 ∨ c = 1) → ∀ c ∈ (rs.foldl (acGo ls (as b.p)) st).1, c = 0 ∨ c = 1 := fun rs => by
        induction rs with
        | nil => exact fun st h => h
        | cons r rs ih =>
          intro st h
          refine ih _ ?_
          unfold acGo
          split
          · exact h
          · exact fun c hc => (List.mem_append.mp hc).elim (h c) (cod01 _ _ _ _ c)
      unfold acs at z
      rcases List.mem_append.mp z with z | z
      · exact h0 _ _ (fun c h => absurd h (by simp)) c z
      · split at z
        · exact fig_01 _ _ c z
        · exact absurd z (by simp)
theorem line_77 : True := by
  k_with "codeAny" => (guard_expr in_Iv =~ in_Iv; ((with_reducible show codeAny _ _ (Code.call (Value.ref 42) _) _ _); k_dflt (refine' cb_start (ls := fun _ _ => ([], 0)) (by assumption) (by k_extra "m stay") (by k_extra "m room") (by k_extra "m room") (by with_reducible assumption) (by k_extra "m own") (by assumption) ?_); intros; k_extra "m upS"))
  exact trivial
theorem line_78 : True := by
  k_with "codeAny" => (guard_expr in_Iv =~ in_Iv; ((with_reducible show codeAny _ _ (Code.call (Value.ref 629) _) _ _); k_dflt (refine' lblock (by assumption) (by k_extra "m stay") (by k_extra "m room") (by k_extra "m room") (by exact CB.row (by with_reducible assumption) (by assumption) (News.sub (by k_asm) (by k_extra "m sb"))) (by assumption) (by assumption) (by assumption) (by assumption) (by assumption) (by k_extra "m own") ?_); intros; k_extra "m upS"))
  exact trivial
theorem line_79 : True := by
  k_with "codeAny" => (guard_expr in_Iv =~ in_Iv; ((with_reducible show codeAny _ _ (Code.call (Value.ref 84) _) _ _); k_dflt (refine' cb_rstart (by assumption) (by k_extra "m stay") (by k_extra "m room") (by k_extra "m room") (by with_reducible assumption) (by k_extra "m own") (by assumption) (by exact bInts_oct (by assumption)) ?_); intros; k_extra "m upS"))
  exact trivial
theorem line_80 : True := by
  k_with "m inst" => (guard_expr in_Iv =~ in_Iv; first | exact cbw_start (by with_reducible assumption) | exact cbw_code (by with_reducible assumption) | exact cbw_finish (by with_reducible assumption) | exact cbr_start (by with_reducible assumption) | exact cbr_read (by with_reducible assumption) | exact cbr_finish (by with_reducible assumption))
  exact trivial
theorem line_81 : True := by
  k_with "compareOp NotEq bytes bytes" => (guard_expr in_Iv =~ in_Iv; (k_here; k_dflt (refine' ne_same (by assumption) (by assumption) (by assumption) (by assumption) ?_)))
  exact trivial
theorem line_82 : True := by
  k_with "m nqt" => (guard_expr in_Iv =~ in_Iv; first | exact NqL.tl (NqL.tl (NqL.tl (NqL.tl (NqL.tl (NqL.tl (by with_reducible assumption)))))) | exact NqL.tl (NqL.tl (NqL.tl (NqL.tl (NqL.tl (NqL.tl (NqL.tl (by with_reducible assumption))))))) | exact NqL.tl (NqL.tl (NqL.tl (NqL.tl (NqL.tl (NqL.tl (NqL.tl (NqL.tl (by with_reducible assumption)))))))) | exact NqL.tl (NqL.tl (NqL.tl (NqL.tl (NqL.tl (NqL.tl (NqL.tl (NqL.tl (NqL.tl (by with_reducible assumption))))))))) | exact NqL.tl (NqL.tl (NqL.tl (NqL.tl (NqL.tl (NqL.tl (NqL.tl (NqL.tl (NqL.tl (NqL.tl (by with_reducible assumption)))))))))))
  exact trivial
theorem line_83 : True := by
  k_with "subscriptTail Name Constant ref int" => (guard_expr in_Iv =~ in_Iv; (k_here; (with_reducible show wpAny _ _ (subscriptTail _ _ (Value.ref _) (Value.int 0 _)) _ _ _); k_dflt (refine' lst_itemM (j := 0) (by k_asm) (by k_extra "m mt") (by exact rfl) (by exact rfl) (by decide) ?_)))
  exact trivial
theorem line_84 : True := by
  k_with "compareOp NotEq ref ref" => (guard_expr in_Iv =~ in_Iv; (k_here; k_dflt (refine' lists_same (by exact News.isList (by k_asm) (by k_mem)) (by first | exact News.isList (by k_asm) (by k_mem) | exact CB.isL (by with_reducible assumption) (by assumption) (by k_asm) (by k_extra "m sb")) (by first | assumption | exact .cons _ _ (.cons _ _ (.cons _ _ (.cons _ _ .nil)))) (by first | assumption | exact .cons _ _ (.cons _ _ (.cons _ _ (.cons _ _ .nil)))) (by k_extra "m room") ?_)))
  exact trivial
theorem line_85 : True := by
  k_with "m mt" => (guard_expr in_Iv =~ in_Iv; first | assumption | exact List.Mem.tail _ (by k_extra "m mt"))
  exact trivial
theorem line_86 : True := by
  k_with "assign Tuple" => (guard_expr in_Iv =~ in_Iv; (k_here; (with_reducible show wpAny _ _ (assign (Expr.Tuple _ _ _) _ (Value.ref _)) _ _ _); k_dflt (refine' unpackN_ (by k_asm) (by k_asm) (by exact tup_news (by k_asm) (by k_extra "m mt")) (by exact rfl) (by exact rfl) (by exact rfl) ?_); intro kzh kzF kzN; (try k_sweep)))
  exact trivial
theorem line_87 : True := by
  k_with "wpC" => (guard_expr in_Iv =~ in_Iv; ((with_reducible show wpC _ _ (exec (Stmt.Assign [Expr.Name _ _] (Expr.ListComp _ _ _ _) _) _) _ _); k_dflt (refine stop ?_)))
  exact trivial
theorem line_88 : True := by
  k_with "call builtin:len" => (guard_expr in_Iv =~ in_Iv; (k_here; k_dflt (refine' len_listB (by k_asm) (by assumption) (by assumption) (by (first | lia | omega)) ?_); intro kzu kzt))
  exact trivial
inductive JI (w : World) (v r sc TD jug L : Addr) (many : Nat) (q : Bool) (o1 o2 : Obj) (vals : List Value) (news : List (Addr × Obj)) : Prop
  | mk (x' y' : Int) (t1' t2' : Tok) (n' : Nat) (bs : List Blk) (CL' : List (Addr × Obj)) (e : news = (jug, listOf #[.int x' t1', .int y' t2'] n') :: (L + 1 + 1, o1) :: (L + 1, o2) :: CL') (H : CB w v r sc TD many q [] none bs CL') (hv : vals = bs.map (fun b => .ref b.t)) (m1 : NqL jug (CL'.map (·.1))) (m2 : NqL (L + 1) (CL'.map (·.1))) (m3 : NqL (L + 1 + 1) (CL'.map (·.1))) : JI w v r sc TD jug L many q o1 o2 vals news
section
variable {w : World} {dp un : Nat} {fr : Option (List Env)} {gd : Option (List Code)} {h₀ : Heap} {s : Shared} {R : Result → Shared → Prop}
theorem interval (C : Stc w h₀) (k : h₀.StaysIn s.heap) {X : Addr}
  {jug sc LD v r TD : Addr} {x y : Int} {t1 t2 : Tok} {n many low : Nat} {q : Bool} {CL : List (Addr × Obj)} {ls : Int → Int → List Int × Nat} {ds as : Nat → Int} {en : Int} (hd : dp + 20 < recursionLimit) (hu : un + 300 < cLine) (HC : CB w v r sc TD many q [] none [] CL) (O : News h₀ X s.heap ((jug, listOf #[.int x t1, .int y t2] n) :: CL)) (nj : NqL jug (CL.map (·.1))) (H : Tabs w h₀ TD ls) (HL : Lsts w h₀ LD ls) (hsc : ScanAt w h₀ sc many ds as en low) (V : Cover ls) (hq : QOk q en low)
  (ret : ∀ x' y' t1' t2' n' CL' (h' : Heap) (tk' : Nat), CB w v r sc TD many q [] none [] CL' → NqL jug (CL'.map (·.1)) → Step X s.heap h' ((jug, listOf #[.int x t1, .int y t2] n) :: CL) ((jug, listOf #[.int x' t1', .int y' t2'] n') :: CL') → R (.ok (.ret (.bool true))) { s with heap := h', toks := tk' }) :
  codeC (model pw w) (ar dp fr gd un) (.call (.ref 646) ⟨[.ref jug, .ref sc, .ref LD, .ref v, .ref r], []⟩) R s := by
  refine ScanAt.elim hsc ?_; intro dsc pl dl al q1 q2 q3 q4 q5 q6 q7 u1 u2 u3 u4 pvs dvs avs np nd na X₂
  refine' beginXC ((jug, listOf #[.int x t1, .int y t2] n) :: CL) [(Str.ofString "jug", .ref jug), (Str.ofString "scan", .ref sc), (Str.ofString "lists", .ref LD), (Str.ofString "writer", .ref v), (Str.ofString "reader", .ref r)] (st := stm 47) C k (News.ent O) ?ho ?he ?hcd ?hroom ?hbind ?hsc ?hnd ?_
  case ho => k_is
  case he => exact rfl
  case hcd => k_is
  case hroom => exact lt_of_add hd
  case hbind => exact rfl
  case hsc => exact rfl
  case hnd => decide +kernel
  intro g L h₁ mean mg mb tk cells F N Y lS X₁ T₁ En C' K
  k_cells Y
  (try simp only [List.cons_append, List.nil_append] at N)
  have lS1 := NqL.of_add lS 1
  have lS2 := NqL.of_add lS 2
  dsimp only [List.map] at lS1 lS2
  k_lt lS
  have e1 := K _ _ X₂.oS
  have e2 := K _ _ X₂.oD
  have e3 := K _ _ X₂.oP
  have e6 := X₂.lP
  have e7 := X₂.m
  have e8 := H.keeps K
  have e9 := HL.keeps K
  have e10 := hsc.keeps K
  rename_i o1 o2 d1 d2
  replace d1 : o1.data = .cell (some (.ref sc)) := d1
  replace d2 : o2.data = .cell (some (.ref jug)) := d2
  replace F : Fr g L h₁ (fun y => if y = Str.ofString "reader" then some (.ref r) else if y = Str.ofString "writer" then some (.ref v) else if y = Str.ofString "lists" then some (.ref LD) else none) := F
  k_extra "k_steps"
  have z1 : Nq jug (L + 1) := lS1.hd
  have z2 : Nq jug (L + 1 + 1) := lS2.hd
  have y1 : NqL (L + 1) (CL.map (·.1)) := lS1.tl
  have y2 : NqL (L + 1 + 1) (CL.map (·.1)) := lS2.tl
  refine wpC.of ?_
  refine' comp_enterU (by with_unfolding_all rfl) ?zcl ?zk ?zn ?_
  case zcl => exact rfl
  case zk => exact rfl
  case zn => decide +kernel
  k_extra "k_steps"
  rename IsRange _ _ _ _ _ _ _ _ => mR; rename Fr _ _ _ _ => F5; rename News _ _ _ _ => N5
  rename_i vn x8 y8 _ t18 t28 n8 _ _ hvn _ _ _ _ _ _
  refine' comp_rangeV (n := vn) (fun i vals news => JI w v r sc TD jug L many q o1 o2 vals news) (by rfl) (by decide +kernel) (by rfl) (by rfl) mR (rsmall (by (first | lia | omega))) (rsize vn) (by (first | lia | omega)) F5 N5 ⟨_, _, _, _, _, [], CL, rfl, HC, rfl, nj, y1, y2⟩ ?cturn (by rfl) (by rfl) ?cdone
  case cturn =>
    rintro I Cc D oL oI i t vals kD mc news h tk hi ⟨x', y', t1', t2', n', bs, CL', rfl, HC', hv9, m1, m2, m3⟩ hl F6 N6 a1 a2 a3 a4 a5 a6 a7
    replace a5 := NqL.of_off a5
    replace a6 := NqL.of_off a6
    replace a7 := NqL.of_off a7
    dsimp only [List.map, envOfC] at F6 N6 a1 a2 a4 a5 a6 a7
    k_extra "k_steps"
    k_extra "m junk"
    rename Fr _ _ _ _ => F9; rename News _ _ _ _ => N9
    rename_i vv _ _ tv _ _ _ _ _ hvv _ _ D0 r0 r1 r2 r3 v0 v1 v2 v3 nr x9 y9 t19 t29 n9 _ _ b0 b1 b2 b3 DT _ lD
    have lE := Apt.r kzL (y := D0) (.tail _ (.head _))
    have nJD : Nq jug D0 := two_four N9 (by k_mem) (by k_mem)
    obtain ⟨CL9, HC9, hm9⟩ := CB.add HC' ⟨DT, D0, vv, tv, nr, r0, r1, r2, r3, v0, v1, v2, v3⟩ ⟨Int.ofNat_lt.mp hvv, b0, b1, b2, b3⟩ lD.tl.tl.tl.tl.tl.tl.tl lE.tl.tl.tl.tl.tl
    have p1 := nql9 hm9 a5.tl.tl.tl lD.tl.tl.hd.symm lE.hd.symm
    have p2 := nql9 hm9 a6.tl.tl.tl lD.tl.tl.tl.hd.symm lE.tl.hd.symm
    have p3 := nql9 hm9 a7.tl.tl.tl lD.tl.tl.tl.tl.hd.symm lE.tl.tl.hd.symm
    have p4 := nql9 hm9 m1 lD.hd.symm nJD.symm
    have p5 := nql9 hm9 m2 lD.tl.tl.tl.tl.tl.tl.hd.symm lE.tl.tl.tl.tl.hd.symm
    have p6 := nql9 hm9 m3 lD.tl.tl.tl.tl.tl.hd.symm lE.tl.tl.tl.hd.symm
    have q1 : (DT, tupOf [.int (vv : Int) tv, .ref D0] 0) ∈ (DT, tupOf [.int (vv : Int) tv, .ref D0] 0) :: (D0, listOf #[.int r0 v0, .int r1 v1, .int r2 v2, .int r3 v3] nr) :: CL' := .head _
    exact ⟨_, _, _, _, rfl, F9, News.sub N9 (sub_cons (by k_mem) (sub_cons (by k_mem) (sub_cons (by k_mem) (sub_cons (by k_mem) (sub_cons (by k_mem) (sub_cons (by k_mem) fun p hp => (sub_cons (p := (DT, tupOf [.int (vv : Int) tv, .ref D0] 0)) (by k_mem) (sub_cons (p := (D0, listOf #[.int r0 v0, .int r1 v1, .int r2 v2, .int r3 v3] nr)) (by k_mem) (by k_extra "m sb")) : ∀ p ∈ (DT, tupOf [.int (vv : Int) tv, .ref D0] 0) :: (D0, listOf #[.int r0 v0, .int r1 v1, .int r2 v2, .int r3 v3] nr) :: CL', p ∈ _) p (hm9 p hp))))))),
      all_ne (NqL.cons a5.hd (NqL.cons a5.tl.hd (NqL.cons a5.tl.tl.hd p1))), all_ne (NqL.cons a6.hd (NqL.cons a6.tl.hd (NqL.cons a6.tl.tl.hd p2))), all_ne (NqL.cons a7.hd (NqL.cons a7.tl.hd (NqL.cons a7.tl.tl.hd p3))), _, _, _, _, _, bs ++ [⟨DT, D0, vv, tv, nr, r0, r1, r2, r3, v0, v1, v2, v3⟩], CL9, rfl, HC9, (by rw [hv9, List.map_append]; rfl), p4, p5, p6⟩
  case cdone =>
    rintro BD h tk vals kD news hl ⟨x', y', t1', t2', n', bs, CL', rfl, HC', hv9, m1, m2, m3⟩ F6 N6 a1
    replace a1 := NqL.of_off a1
    dsimp only [List.map] at a1
    k_extra "k_steps"
    rename CB _ _ _ _ _ _ _ _ _ _ _ => HC1; rename Fr _ _ _ _ => F7; rename News _ _ _ _ => N7
    rename_i CL1 _ _ DU _ _ _ l1 _
    refine c_For ?_
    k_extra "k_steps"
    have hbl : bs.length = vn := by rw [← hl, hv9, List.length_map]
    refine' c_listN (vs := vals) (fun j m news => ∃ CL DU vd kd u1 u2, m = (fun y => if y = Str.ofString "place" then u1 else if y = Str.ofString "row" then u2 else if y = Str.ofString "due" then some (.ref DU) else if y = Str.ofString "blocks" then some (.ref BD) else if y = Str.ofString "reader" then some (.ref r) else if y = Str.ofString "writer" then some (.ref v) else if y = Str.ofString "lists" then some (.ref LD) else none)
      ∧ news = (BD, listOf (List.toArray vals) kD) :: (DU, listOf (List.toArray vd) kd) :: (jug, listOf #[.int x' t1', .int y' t2'] n') :: (L + 1 + 1, o1) :: (L + 1, o2) :: CL ∧ CB w v r sc TD many q (figs ls ds as low q bs j) none bs CL ∧ IntsAre vd (figs ls ds as low q bs j) ∧ vd.length ≤ 100 * j ∧ Apt [BD, DU, jug, L + 1 + 1, L + 1] (CL.map (·.1)) ∧ NqL DU [BD, jug, L + 1 + 1, L + 1]) (by rfl) F7 (News.sub N7 (S := (BD, listOf (List.toArray vals) kD) :: (BD, listOf (List.toArray vals) kD) :: (DU, listOf (List.toArray []) 0) :: (jug, listOf #[.int x' t1', .int y' t2'] n') :: (L + 1 + 1, o1) :: (L + 1, o2) :: CL1) (by k_extra "m sb")) ?w0 ?wturn ?wdone
    case w0 => exact mk6 (a4 := none) (a5 := none) ⟨by k_extra "m map", rfl, HC1, .nil, Nat.zero_le _, by k_extra "m apt", NqL.cons l1.hd (NqL.cons l1.tl.hd (NqL.cons l1.tl.tl.hd (NqL.cons l1.tl.tl.tl.hd NqL.nil)))⟩
    case wturn =>
      clear HC1 N7 F7 l1 kzL
      intro I j v' m news h tk o lI hj hJ hI F₁ N₁
      (with_reducible refine ex6 hJ ?_); clear hJ; intro CL DU vd kd u1 u2 hJ
      (with_reducible refine conj7 hJ ?_); clear hJ; intro hm9 hn9 HCj hvd hld A nDU
      replace F₁ := Fr.cast hm9 F₁; replace N₁ := News.castT2 hn9 N₁; rw [hn9] at hI; replace hI := NqL.ofne hI; dsimp only [List.map] at hI; clear hm9 hn9
      replace N₁ := News.sub N₁ (S := (I, o) :: (BD, listOf (List.toArray vals) kD) :: (DU, listOf (List.toArray vd) kd) :: (jug, listOf #[.int x' t1', .int y' t2'] n') :: (L + 1 + 1, o1) :: (L + 1, o2) :: CL) (by k_extra "m sb")
      rw [hv9, List.getElem?_map, Option.map_eq_some_iff] at hj
      obtain ⟨b, hb, rfl⟩ := hj
      have d1' : Nq BD DU := nDU.hd
      have d2' : Nq jug DU := nDU.tl.hd
      have hbm := List.mem_of_getElem? hb
      have hbt : (b.t, tupOf [.int (b.p : Int) b.tp, .ref b.row] 0) ∈ CL := HCj.tup hbm
      have ob := HCj.okb hbm
      have hj5 : j < 5 := by
        have := (List.getElem?_eq_some_iff.mp hb).1
        (first | lia | omega)
      have hfl : (figs ls ds as low q bs j).length ≤ 50000 := by rw [← hvd.length]; (first | lia | omega)
      replace lI := NqL.of_lt lI
      (show wpAny _ _ _ _ _ _)
      k_extra "k_steps"
      rename Fr _ _ _ _ => F9; rename News _ _ _ _ => N9; rename CB _ _ _ _ _ _ _ _ _ _ _ => HC9; rename IntsAre _ (blk _ _ _ _ _ _) => hI9
      rename_i CL9 _ _ lA _ vals9 _ _ _ _ _
      have w1 : Nq kzD I := by k_extra "m nq"
      have w3 : NqL kzD [BD, jug, L + 1 + 1, L + 1] := by k_extra "m nqs"
      have w2 : NqL kzD (CL9.map (·.1)) := by k_extra "m nqt"
      refine' TEnd.nextF F9 (News.sub N9 (S := (I, o) :: (BD, listOf (List.toArray vals) kD) :: (BD, listOf (List.toArray vals) kD) :: (kzD, listOf (List.toArray (vd ++ vals9)) 0) :: (jug, listOf #[.int x' t1', .int y' t2'] n') :: (L + 1 + 1, o1) :: (L + 1, o2) :: CL9) (by k_extra "m sb")) ?wo (mk6 ⟨?wm, rfl, ?wc, ?wi, ?wl, ?wa, ?wn⟩)
      case wo => exact all_ne (NqL.cons hI.hd (NqL.cons w1 (NqL.cons hI.tl.tl.hd (NqL.cons hI.tl.tl.tl.hd (NqL.cons hI.tl.tl.tl.tl.hd (lA.l (.head _)))))))
      case wm => k_extra "m map"
      case wc => rw [figs_succ hb]; exact HC9
      case wi => rw [figs_succ hb]; exact ints_app hvd hI9
      case wl => rw [List.length_append]; (first | lia | omega)
      case wa => exact Apt.cons (lA.l (.tail _ (.head _))) (Apt.cons w2 (Apt.cons (lA.l (.tail _ (.tail _ (.tail _ (.head _))))) (Apt.cons (lA.l (.tail _ (.tail _ (.tail _ (.tail _ (.head _)))))) (Apt.cons (lA.l (.tail _ (.tail _ (.tail _ (.tail _ (.tail _ (.head _))))))) Apt.nil))))
      case wn => exact w3
    case wdone =>
      intro m news h tk hJ F₁ N₁
      (with_reducible refine ex6 hJ ?_); clear hJ; intro CL DU vd kd u1 u2 hJ
      (with_reducible refine conj7 hJ ?_); clear hJ; intro hm9 hn9 HCj hvd hld A nDU
      replace F₁ := Fr.cast hm9 F₁; replace N₁ := News.cast hn9 N₁; clear hm9 hn9
      have d1' : Nq BD DU := nDU.hd
      have d2' : Nq jug DU := nDU.tl.hd
      have d3' : Nq (L + 1 + 1) DU := nDU.tl.tl.hd
      have d4' : Nq (L + 1) DU := nDU.tl.tl.tl.hd
      have hln : vals.length = bs.length := by rw [hv9, List.length_map]
      rw [hln] at HCj hvd hld
      have hfl : (figs ls ds as low q bs bs.length).length ≤ 50000 := by rw [← hvd.length]; (first | lia | omega)
      have hf01 := figs_01 (ls := ls) (ds := ds) (as := as) (low := low) (q := q) (bs := bs) (j := bs.length)
      k_extra "k_steps"
      rename CB _ _ _ _ _ _ _ _ _ _ _ => HC2; rename Fr _ _ _ _ => F7; rename News _ _ _ _ => N7
      rename_i FF _ _ _ _ hoc hO _ _ _ _ _ _ _ _ _ _ CL2 _ _
      have hk8 : 8 * FF.length = (padded (figs ls ds as low q bs bs.length)).length := by rw [← octs_length, hoc]
      have hk9 := padded_le (figs ls ds as low q bs bs.length)
      have hks : FF.length ≤ 100000 := by (first | lia | omega)
      have hka : (figs ls ds as low q bs bs.length).length ≤ 8 * FF.length := by rw [hk8, padded, List.length_append]; (first | lia | omega)
      refine c_For ?_
      k_extra "k_steps"
      refine' c_listN (vs := vals) (fun j m news => ∃ CL u1 u2 u3 u4 u5 u6, m = (fun y => if y = Str.ofString "place" then u1 else if y = Str.ofString "row" then u2 else if y = Str.ofString "held" then u3 else if y = Str.ofString "wanted" then u4 else if y = Str.ofString "due" then u5 else if y = Str.ofString "told" then u6 else if y = Str.ofString "blocks" then some (.ref BD) else if y = Str.ofString "reader" then some (.ref r) else if y = Str.ofString "writer" then some (.ref v) else if y = Str.ofString "lists" then some (.ref LD) else none)
        ∧ news = (BD, listOf (List.toArray vals) kD) :: (jug, listOf #[.int x' t1', .int y' t2'] n') :: (L + 1 + 1, o1) :: (L + 1, o2) :: CL ∧ CB w v r sc TD many q [] (some (FF, (figs ls ds as low q bs j).length)) bs CL ∧ Apt [BD, jug, L + 1 + 1, L + 1] (CL.map (·.1))) (by rfl) F7 (News.sub N7 (S := (BD, listOf (List.toArray vals) kD) :: (BD, listOf (List.toArray vals) kD) :: (jug, listOf #[.int x' t1', .int y' t2'] n') :: (L + 1 + 1, o1) :: (L + 1, o2) :: CL2) (by k_extra "m sb")) ?x0 ?xturn ?xdone
      case x0 => exact mk7 ⟨by k_extra "m map", rfl, HC2, by k_extra "m apt"⟩
      case xturn =>
        clear HC2 N7 F7
        intro I j v' m news h tk o lI hj hJ hI F₁ N₁
        (with_reducible refine ex7 hJ ?_); clear hJ; intro CL u1 u2 u3 u4 u5 u6 hJ
        (with_reducible refine conj4 hJ ?_); clear hJ; intro hm9 hn9 HCj A
        replace F₁ := Fr.cast hm9 F₁; replace N₁ := News.castT2 hn9 N₁; rw [hn9] at hI; replace hI := NqL.ofne hI; dsimp only [List.map] at hI; clear hm9 hn9
        replace N₁ := News.sub N₁ (S := (I, o) :: (BD, listOf (List.toArray vals) kD) :: (jug, listOf #[.int x' t1', .int y' t2'] n') :: (L + 1 + 1, o1) :: (L + 1, o2) :: CL) (by k_extra "m sb")
        rw [hv9, List.getElem?_map, Option.map_eq_some_iff] at hj
        obtain ⟨b, hb, rfl⟩ := hj
        have hbm := List.mem_of_getElem? hb
        have hbt : (b.t, tupOf [.int (b.p : Int) b.tp, .ref b.row] 0) ∈ CL := HCj.tup hbm
        have hbr : (b.row, listOf #[.int b.r0 b.v0, .int b.r1 b.v1, .int b.r2 b.v2, .int b.r3 b.v3] b.nr) ∈ CL := HCj.lst hbm
        have ob := HCj.okb hbm
        obtain ⟨rest, hc⟩ := figs_drop hb hoc
        have hp0 : (figs ls ds as low q bs j).length ≤ 8 * FF.length := Nat.le_trans figs_le hka
        replace lI := NqL.of_lt lI
        (show wpAny _ _ _ _ _ _)
        cases q with
        | true =>
          obtain ⟨he0, hlow⟩ := id hq
          have hfd : (b.r0.fdiv (2 ^ Int.toNat ((low : Nat) : Int))).natAbs ≤ 31 := fdiv_small ob.r0
          subst he0
          k_extra "k_steps"
          rename Fr _ _ _ _ => F9; rename News _ _ _ _ => N9; rename CB _ _ _ _ _ _ _ _ _ _ _ => HC9
          obtain ⟨CL9, HC8, lI9, lA9, NC9⟩ : ∃ CL9, CB w v r sc TD many true [] (some (FF, (figs ls ds as low true bs j).length + (blk ls ds as low true b).length)) bs CL9 ∧ NqL I (CL9.map (·.1)) ∧ Apt [BD, jug, L + 1 + 1, L + 1] (CL9.map (·.1)) ∧ News g L _ CL9 :=
            ⟨_, HC9, (Apt.l kzL (by k_extra "m am")).tl, Apt.cons (Apt.l kzL (by k_extra "m am")).tl (Apt.cons (Apt.l kzL (by k_extra "m am")).tl (Apt.cons (Apt.l kzL (by k_extra "m am")).tl (Apt.cons (Apt.l kzL (by k_extra "m am")).tl Apt.nil))), News.sub N9 (by k_extra "m sb")⟩
          refine' TEnd.nextF F9 (News.app (News.sub N9 (S := (I, o) :: (BD, listOf (List.toArray vals) kD) :: (BD, listOf (List.toArray vals) kD) :: (jug, listOf #[.int x' t1', .int y' t2'] n') :: (L + 1 + 1, o1) :: (L + 1, o2) :: []) (by k_extra "m sb")) NC9 : News g L _ ((I, o) :: (BD, listOf (List.toArray vals) kD) :: (BD, listOf (List.toArray vals) kD) :: (jug, listOf #[.int x' t1', .int y' t2'] n') :: (L + 1 + 1, o1) :: (L + 1, o2) :: CL9)) (all_ne (NqL.cons hI.hd (NqL.cons hI.tl.hd (NqL.cons hI.tl.tl.hd (NqL.cons hI.tl.tl.tl.hd lI9))))) (mk7 ⟨?xm, rfl, by rw [figs_succ hb, List.length_append]; exact HC8, lA9⟩)
          case xm => exact chainX
        | false =>
          obtain ⟨he0, hlow⟩ := id hq
          subst he0 hlow
          k_extra "k_steps"
          rename Fr _ _ _ _ => F9; rename News _ _ _ _ => N9; rename CB _ _ _ _ _ _ _ _ _ _ _ => HC9
          obtain ⟨CL9, HC8, lI9, lA9, NC9⟩ : ∃ CL9, CB w v r sc TD many false [] (some (FF, (figs ls ds as 0 false bs j).length + (blk ls ds as 0 false b).length)) bs CL9 ∧ NqL I (CL9.map (·.1)) ∧ Apt [BD, jug, L + 1 + 1, L + 1] (CL9.map (·.1)) ∧ News g L _ CL9 :=
            ⟨_, HC9, (Apt.l kzL (by k_extra "m am")).tl, Apt.cons (Apt.l kzL (by k_extra "m am")).tl (Apt.cons (Apt.l kzL (by k_extra "m am")).tl (Apt.cons (Apt.l kzL (by k_extra "m am")).tl (Apt.cons (Apt.l kzL (by k_extra "m am")).tl Apt.nil))), News.sub N9 (by k_extra "m sb")⟩
          refine' TEnd.nextF F9 (News.app (News.sub N9 (S := (I, o) :: (BD, listOf (List.toArray vals) kD) :: (BD, listOf (List.toArray vals) kD) :: (jug, listOf #[.int x' t1', .int y' t2'] n') :: (L + 1 + 1, o1) :: (L + 1, o2) :: []) (by k_extra "m sb")) NC9 : News g L _ ((I, o) :: (BD, listOf (List.toArray vals) kD) :: (BD, listOf (List.toArray vals) kD) :: (jug, listOf #[.int x' t1', .int y' t2'] n') :: (L + 1 + 1, o1) :: (L + 1, o2) :: CL9)) (all_ne (NqL.cons hI.hd (NqL.cons hI.tl.hd (NqL.cons hI.tl.tl.hd (NqL.cons hI.tl.tl.tl.hd lI9))))) (mk7 ⟨?xm, rfl, by rw [figs_succ hb, List.length_append]; exact HC8, lA9⟩)
          case xm => exact chainX
      case xdone =>
        intro m news h tk hJ F₁ N₁
        (with_reducible refine ex7 hJ ?_); clear hJ; intro CL u1 u2 u3 u4 u5 u6 hJ
        (with_reducible refine conj4 hJ ?_); clear hJ; intro hm9 hn9 HCj A
        replace F₁ := Fr.cast hm9 F₁; replace N₁ := News.cast hn9 N₁; clear hm9 hn9
        rw [hln] at HCj
        have hp7 : 8 * FF.length ≤ (figs ls ds as low q bs bs.length).length + 7 := by (first | lia | omega)
        k_extra "k_steps"
        rename Fr _ _ _ _ => F9; rename News _ _ _ _ => N9; rename CB _ _ _ _ _ _ _ _ _ _ _ => HC5
        obtain ⟨CL0, HC0, hm0⟩ := CB.drop HC5
        exact ret x' y' t1' t2' n' CL0 _ _ HC0 (NqL.more (Apt.l (by with_reducible assumption) (.tail _ (.head _))) hm0) (Step.of (by with_reducible assumption) En F9 N9 (sub_cons (by k_mem) fun p hp => (by k_extra "m sb" : ∀ p ∈ _, p ∈ _) p (hm0 p hp)))
end
end
section
theorem cover_LS : Cover LS where
  dc := fun b v hb hv => by
    have h5 : sz v ≤ 5 := sz_le_iff.mpr (by (first | lia | omega))
    have h6 : sz v < 6 := by (first | lia | omega)
    generalize sz v = k at h6
    have : ∀ k : Nat, k < 6 → (16 * 0 + (k : Int)) ∈ szs ∧ (16 * 0 + (k : Int)) ∈ szs.reverse := by decide
    rcases hb with rfl | rfl
    · exact (this k h6).1
    · exact (this k h6).2
  ac := fun b run v hb h0 h2 hv h31 => by
    have h5 : sz v ≤ 5 := sz_le_iff.mpr (by (first | lia | omega))
    have h1 : 0 < sz v := Nat.pos_of_ne_zero fun q => hv (sz_zero.mp q)
    have h6 : sz v < 6 := by (first | lia | omega)
    obtain ⟨r, rfl⟩ := Int.eq_ofNat_of_zero_le h0
    have h3 : r < 3 := by (first | lia | omega)
    generalize sz v = k at h6 h1
    have : ∀ r : Nat, r < 3 → ∀ k : Nat, k < 6 → 0 < k → (16 * (r : Int) + (k : Int)) ∈ rns 3 ∧ (16 * (r : Int) + (k : Int)) ∈ (rns 3).reverse := by decide
    rcases hb with rfl | rfl
    · exact (this r h3 k h6 h1).1
    · exact (this r h3 k h6 h1).2
  ac0 := fun b hb => by rcases hb with rfl | rfl <;> decide
  len := fun a b => by unfold LS; split <;> split <;> decide
  lay := fun a b => by unfold LS; split <;> split <;> decide
theorem getD01 {ns : List Int} (h : ∀ c ∈ ns, c = 0 ∨ c = 1) (i : Nat) : ns.getD i 0 = 0 ∨ ns.getD i 0 = 1 := by
  rw [List.getD_eq_getElem?_getD]
  cases e : ns[i]? with
  | none => exact .inl rfl
  | some c => exact h c (List.mem_of_getElem? e)
theorem ints_getD {vs : List Value} {ns : List Int} (h : IntsAre vs ns) {i n : Nat} (hl : vs.length = n) (hi : i < n) : ∃ t, vs[i]? = some (.int (ns.getD i 0) t) := by
  obtain ⟨c, t, e, e2⟩ := h.at i _ (List.getElem?_eq_getElem (by (first | lia | omega)))
  exact ⟨t, by rw [List.getElem?_eq_getElem (by (first | lia | omega)), e, List.getD_eq_getElem?_getD, e2]; rfl⟩
theorem scan_made {w : World} {h : Heap} {sc dsc pl S0 S1 : Addr} {en : Int} {low mn np n0 n1 : Nat} {k1 k2 k3 k4 k5 k6 k7 t1 t2 t3 t4 : Tok} {us vs0 vs1 : List Value} {ns0 ns1 : List Int}
    (e1 : h.get? sc = some (instObj 442 dsc)) (e2 : h.get? dsc = some (scD w pl S0 S1 en low k1 k2 k3 k4 k5 k6 k7 t1 t2 t3 t4)) (e3 : h.get? pl = some (listOf (List.toArray us) np)) (e4 : h.get? S0 = some (listOf (List.toArray vs0) n0)) (e5 : h.get? S1 = some (listOf (List.toArray vs1) n1))
    (lu : us.length = mn) (i0 : IntsAre vs0 ns0) (i1 : IntsAre vs1 ns1) (l0 : vs0.length = mn) (l1 : vs1.length = mn) (h0 : ∀ c ∈ ns0, c = 0 ∨ c = 1) (h1 : ∀ c ∈ ns1, c = 0 ∨ c = 1) (hm : 0 < mn ∧ mn ≤ 3) :
    ScanAt w h sc mn (fun i => ns0.getD i 0) (fun i => ns1.getD i 0) en low :=
  ⟨dsc, pl, S0, S1, k1, k2, k3, k4, k5, k6, k7, t1, t2, t3, t4, us, vs0, vs1, np, n0, n1, e1, e2, e3, e4, e5, lu, l0, l1, fun _ hi => ints_getD i0 l0 hi, fun _ hi => ints_getD i1 l1 hi, hm, getD01 h0, getD01 h1⟩
/-- the bundle of the law out of its parts -/
theorem law_of {w : World} {v r sc TD LD : Addr} {many low : Nat} {q : Bool} {ds as : Nat → Int} {en : Int} {T WB RB : List (Addr × Obj)} (DW : DirW w v sc TD many [] q WB) (DR : DirR w r sc TD many none q RB) (A1 : Apt (WB.map (·.1)) (RB.map (·.1))) (A2 : Apt (T.map (·.1)) (WB.map (·.1))) (A3 : Apt (T.map (·.1)) (RB.map (·.1)))
    (HT : ∀ h, Holds T h → Tabs w h TD LS ∧ Lsts w h LD LS ∧ ScanAt w h sc many ds as en low) : ∃ ZL, Law w v r sc TD LD many q ds as en low ZL ∧ ∀ p ∈ ZL, p ∈ T ++ (WB ++ RB) := by
  have e : blO [] = [] := rfl
  refine ⟨_, .mk T _ HT (.mk WB RB DW DR A1 ⟨fun _ _ _ h => nomatch h⟩ ⟨fun _ _ _ h => nomatch h⟩ (fun _ h => nomatch h)) ?_, fun p hp => ?_⟩
  · rw [e, List.append_nil]; exact apt_app A2 A3
  · rw [e, List.append_nil] at hp; exact hp
theorem lww_start {w : World} {v r sc TD LD : Addr} {many low : Nat} {q : Bool} {ds as : Nat → Int} {en : Int} {ZL : List (Addr × Obj)} (h : Law w v r sc TD LD many q ds as en low ZL) : Inst0 ZL v 59 (Str.ofString "start") := by
  obtain ⟨T, CL, HT, HC, A⟩ := h
  obtain ⟨dx, es, n, a, b, c⟩ := cbw_start HC
  exact ⟨dx, es, n, List.mem_append_right _ a, List.mem_append_right _ b, c⟩
theorem lww_finish {w : World} {v r sc TD LD : Addr} {many low : Nat} {q : Bool} {ds as : Nat → Int} {en : Int} {ZL : List (Addr × Obj)} (h : Law w v r sc TD LD many q ds as en low ZL) : Inst0 ZL v 59 (Str.ofString "finish") := by
  obtain ⟨T, CL, HT, HC, A⟩ := h
  obtain ⟨dx, es, n, a, b, c⟩ := cbw_finish HC
  exact ⟨dx, es, n, List.mem_append_right _ a, List.mem_append_right _ b, c⟩
section
variable {w : World} {dp un : Nat} {fr : Option (List Env)} {gd : Option (List Code)} {h₀ : Heap} {s : Shared} {R : Result → Shared → Prop}
theorem law_turn (C : Stc w h₀) (k : h₀.StaysIn s.heap) {X : Addr} {jug v r sc TD LD : Addr} {x y : Int} {t1 t2 : Tok} {n many low : Nat} {q : Bool} {ds as : Nat → Int} {en : Int} {ZL : List (Addr × Obj)} (hd : dp + 20 < recursionLimit) (hu : un + 300 < cLine) (HL : Law w v r sc TD LD many q ds as en low ZL) (O : News h₀ X s.heap ((jug, listOf #[.int x t1, .int y t2] n) :: ZL)) (nj : NqL jug (ZL.map (·.1))) (hq : QOk q en low)
  (ret : ∀ x' y' t1' t2' n' ZL' (h' : Heap) (tk' : Nat), Law w v r sc TD LD many q ds as en low ZL' → NqL jug (ZL'.map (·.1)) → Step X s.heap h' ((jug, listOf #[.int x t1, .int y t2] n) :: ZL) ((jug, listOf #[.int x' t1', .int y' t2'] n') :: ZL') → R (.ok (.ret (.bool true))) { s with heap := h', toks := tk' }) :
  codeC (model pw w) (ar dp fr gd un) (.call (.ref 646) ⟨[.ref jug, .ref sc, .ref LD, .ref v, .ref r], []⟩) R s := by
  obtain ⟨T, CL, HT, HC, A⟩ := HL
  have nT : NqL jug (T.map (·.1)) := nj.more fun p hp => List.mem_append_left _ hp
  have nC : NqL jug (CL.map (·.1)) := nj.more fun p hp => List.mem_append_right _ hp
  obtain ⟨h₁, C1, k1, O1, H1⟩ := rebase (S := (jug, listOf #[.int x t1, .int y t2] n) :: CL) (T := T) C k O (fun p hp => by
      rcases List.mem_cons.mp hp with rfl | hp
      · exact .head _
      · exact .tail _ (List.mem_append_right _ hp)) (fun _ h => .tail _ (List.mem_append_left _ h)) ⟨fun a ha b hb => by
      rcases List.mem_cons.mp hb with rfl | hb
      · exact nT.h a ha
      · exact A.h a ha b hb⟩
  obtain ⟨H2, H3, H4⟩ := HT h₁ H1
  exact interval C1 k1 hd hu HC O1 nC H2 H3 H4 cover_LS hq fun x' y' t1' t2' n' CL' h' tk' HC' nj' St =>
    let ⟨a, b⟩ := setJ O St rfl A nj
    ret x' y' t1' t2' n' (T ++ CL') h' tk' (.mk T CL' HT HC' b) (NqL.app nT nj') a
end
end
section
namespace G_Lu
theorem in_Lu : True := trivial
end G_Lu
open G_Lu
theorem NqL.sb {d : Nat} {l l' : List Nat} (n : NqL d l) (h : ∀ x ∈ l', x ∈ l) : NqL d l' := ⟨fun x hx => n.h x (h x hx)⟩
theorem Apt.sb {a b a' b' : List Nat} (A : Apt a b) (ha : ∀ x ∈ a', x ∈ a) (hb : ∀ x ∈ b', x ∈ b) : Apt a' b' := ⟨fun x hx y hy => A.h x (ha x hx) y (hb y hy)⟩
theorem Apt.ap {a b c : List Nat} (A : Apt a c) (B : Apt b c) : Apt (a ++ b) c := ⟨fun x hx y hy => (List.mem_append.mp hx).elim (fun h => A.h x h y hy) fun h => B.h x h y hy⟩
theorem Apt.of1 {a : Nat} {b : List Nat} (n : NqL a b) : Apt [a] b := Apt.cons n Apt.nil
theorem asb0 {l : List Nat} : ∀ x ∈ ([] : List Nat), x ∈ l := fun _ h => nomatch h
theorem asbc {a : Nat} {l' l : List Nat} (h : a ∈ l) (t : ∀ x ∈ l', x ∈ l) : ∀ x ∈ a :: l', x ∈ l := List.forall_mem_cons.mpr ⟨h, t⟩
theorem law_make {w : World} {g h : Heap} {L : Addr} {J v dv y dy r dr z dz sc dsc D TD LD sk ca cb : Addr} {oJ ov odv oy ody orr odr oz odz osc ods oD oa ob : Obj} {U SB l : List (Addr × Obj)} {M M0 MD B0 B1 : List Nat} {many low : Nat} {q : Bool} {ds as : Nat → Int} {en : Int}
  (N : News g L h l) (BS : SinkB w sk TD [] SB) (DW : ∀ BB, SinkB w sk TD [] BB → Apt [v, dv, y, dy] (BB.map (·.1)) → DirW w v sc TD many [] q ((v, ov) :: (dv, odv) :: (y, oy) :: (dy, ody) :: BB)) (DR : DirR w r sc TD many none q [(r, orr), (dr, odr), (z, oz), (dz, odz)])
  (qr : NqL r (dr :: z :: dz :: v :: dv :: y :: dy :: sc :: dsc :: M)) (qdr : NqL dr (z :: dz :: v :: dv :: y :: dy :: sc :: dsc :: M)) (qz : NqL z (dz :: v :: dv :: y :: dy :: sc :: dsc :: M)) (qdz : NqL dz (v :: dv :: y :: dy :: sc :: dsc :: M))
  (qv : NqL v (dv :: y :: dy :: sc :: dsc :: M)) (qdv : NqL dv (y :: dy :: sc :: dsc :: M)) (qy : NqL y (dy :: sc :: dsc :: M)) (qdy : NqL dy (sc :: dsc :: M))
  (qsc : NqL sc (dsc :: M0)) (qds : NqL dsc M0) (qD : NqL D MD) (A0 : Apt B0 (U.map (·.1))) (A1 : Apt B1 (SB.map (·.1)))
  (HT : ∀ h, Holds ((sc, osc) :: (dsc, ods) :: (D, oD) :: U) h → Tabs w h TD LS ∧ Lsts w h LD LS ∧ ScanAt w h sc many ds as en low)
  (m1 : ∀ x ∈ [J, ca, cb, D], x ∈ M) (m2 : ∀ x ∈ (U ++ SB).map (·.1), x ∈ M) (m3 : ∀ x ∈ [J, ca, cb, D], x ∈ M0) (m4 : ∀ x ∈ [J, ca, cb], x ∈ MD) (m5 : ∀ x ∈ [J, ca, cb, sc, dsc, D], x ∈ B0) (m6 : ∀ x ∈ [J, ca, cb, sc, dsc, D], x ∈ B1) (m7 : ∀ x ∈ U.map (·.1), x ∈ B1)
  (sub : ∀ p ∈ (r, orr) :: (dr, odr) :: (z, oz) :: (dz, odz) :: (v, ov) :: (dv, odv) :: (y, oy) :: (dy, ody) :: (sc, osc) :: (dsc, ods) :: (J, oJ) :: (D, oD) :: (ca, oa) :: (cb, ob) :: (U ++ SB), p ∈ l) :
  ∃ ZL, Law w v r sc TD LD many q ds as en low ZL ∧ News g L h ((J, oJ) :: (ca, oa) :: (cb, ob) :: ZL) ∧ NqL J (ZL.map (·.1)) ∧ NqL ca (ZL.map (·.1)) ∧ NqL cb (ZL.map (·.1)) := by
  have mU : ∀ x ∈ U.map (·.1), x ∈ M := fun x hx => m2 x (by rw [List.map_append]; exact List.mem_append_left _ hx)
  have mS : ∀ x ∈ SB.map (·.1), x ∈ M := fun x hx => m2 x (by rw [List.map_append]; exact List.mem_append_right _ hx)
  have mD : D ∈ M := m1 D (.tail _ (.tail _ (.tail _ (.head _))))
  have W4 : Apt [v, dv, y, dy] (sc :: dsc :: M) := Apt.cons qv.tl.tl.tl (Apt.cons qdv.tl.tl (Apt.cons qy.tl (Apt.of1 qdy)))
  have R4 : Apt [r, dr, z, dz] (v :: dv :: y :: dy :: sc :: dsc :: M) := Apt.cons qr.tl.tl.tl (Apt.cons qdr.tl.tl (Apt.cons qz.tl (Apt.of1 qdz)))
  have R5 : Apt [r, dr, z, dz] (sc :: dsc :: M) := R4.sb (fun _ h => h) fun x hx => .tail _ (.tail _ (.tail _ (.tail _ hx)))
  have tT : ∀ x ∈ ((sc, osc) :: (dsc, ods) :: (D, oD) :: U).map (·.1), x ∈ sc :: dsc :: M := asbc (.head _) (asbc (.tail _ (.head _)) (asbc (.tail _ (.tail _ mD)) fun x hx => .tail _ (.tail _ (mU x hx))))
  have sS : ∀ x ∈ SB.map (·.1), x ∈ sc :: dsc :: M := fun x hx => .tail _ (.tail _ (mS x hx))
  have WS : Apt [v, dv, y, dy] (SB.map (·.1)) := W4.sb (fun _ h => h) sS
  have TS : Apt (((sc, osc) :: (dsc, ods) :: (D, oD) :: U).map (·.1)) (SB.map (·.1)) := A1.sb (asbc (m6 sc (.tail _ (.tail _ (.tail _ (.head _))))) (asbc (m6 dsc (.tail _ (.tail _ (.tail _ (.tail _ (.head _)))))) (asbc (m6 D (.tail _ (.tail _ (.tail _ (.tail _ (.tail _ (.head _))))))) m7))) (fun _ h => h)
  have F := DW SB BS WS
  obtain ⟨ZL, HL, hZ⟩ := law_of F DR (Apt.symm (R4.sb (fun _ h => h) (asbc (.head _) (asbc (.tail _ (.head _)) (asbc (.tail _ (.tail _ (.head _))) (asbc (.tail _ (.tail _ (.tail _ (.head _)))) fun x hx => .tail _ (.tail _ (.tail _ (.tail _ (sS x hx))))))))))
    (Apt.symm (Apt.ap (a := [v, dv, y, dy]) (W4.sb (fun _ h => h) tT) TS.symm)) (Apt.symm (R5.sb (fun _ h => h) tT)) HT
  have sZ : ∀ p ∈ ZL, p ∈ l := fun p hp => by
    refine sub p ?_
    rcases List.mem_append.mp (hZ p hp) with k | k
    · rcases List.mem_cons.mp k with rfl | k
      · exact .tail _ (.tail _ (.tail _ (.tail _ (.tail _ (.tail _ (.tail _ (.tail _ (.head _))))))))
      · rcases List.mem_cons.mp k with rfl | k
        · exact .tail _ (.tail _ (.tail _ (.tail _ (.tail _ (.tail _ (.tail _ (.tail _ (.tail _ (.head _)))))))))
        · rcases List.mem_cons.mp k with rfl | k
          · exact .tail _ (.tail _ (.tail _ (.tail _ (.tail _ (.tail _ (.tail _ (.tail _ (.tail _ (.tail _ (.tail _ (.head _)))))))))))
          · exact .tail _ (.tail _ (.tail _ (.tail _ (.tail _ (.tail _ (.tail _ (.tail _ (.tail _ (.tail _ (.tail _ (.tail _ (.tail _ (.tail _ (List.mem_append_left _ k))))))))))))))
    · rcases List.mem_append.mp k with k | k
      · rcases List.mem_cons.mp k with rfl | k
        · exact .tail _ (.tail _ (.tail _ (.tail _ (.head _))))
        · rcases List.mem_cons.mp k with rfl | k
          · exact .tail _ (.tail _ (.tail _ (.tail _ (.tail _ (.head _)))))
          · rcases List.mem_cons.mp k with rfl | k
            · exact .tail _ (.tail _ (.tail _ (.tail _ (.tail _ (.tail _ (.head _))))))
            · rcases List.mem_cons.mp k with rfl | k
              · exact .tail _ (.tail _ (.tail _ (.tail _ (.tail _ (.tail _ (.tail _ (.head _)))))))
              · exact .tail _ (.tail _ (.tail _ (.tail _ (.tail _ (.tail _ (.tail _ (.tail _ (.tail _ (.tail _ (.tail _ (.tail _ (.tail _ (.tail _ (List.mem_append_right _ k))))))))))))))
      · rcases List.mem_cons.mp k with rfl | k
        · exact .head _
        · rcases List.mem_cons.mp k with rfl | k
          · exact .tail _ (.head _)
          · rcases List.mem_cons.mp k with rfl | k
            · exact .tail _ (.tail _ (.head _))
            · rw [List.mem_singleton.mp k]; exact .tail _ (.tail _ (.tail _ (.head _)))
  have all : ∀ x ∈ [J, ca, cb], NqL x (ZL.map (·.1)) := fun x hx => by
    have hM : x ∈ M := m1 x (List.mem_append_left [D] hx)
    have h5 : x ∈ [J, ca, cb, sc, dsc, D] := List.mem_append_left [sc, dsc, D] hx
    refine ⟨fun a ha => ?_⟩
    obtain ⟨p, hp, rfl⟩ := List.mem_map.mp ha
    have hM' : x ∈ sc :: dsc :: M := .tail _ (.tail _ hM)
    rcases List.mem_append.mp (hZ p hp) with k | k
    · rcases List.mem_cons.mp k with rfl | k
      · exact (qsc.h x (.tail _ (m3 x (List.mem_append_left [D] hx)))).symm
      · rcases List.mem_cons.mp k with rfl | k
        · exact (qds.h x (m3 x (List.mem_append_left [D] hx))).symm
        · rcases List.mem_cons.mp k with rfl | k
          · exact (qD.h x (m4 x hx)).symm
          · exact (A0.h x (m5 x h5) _ (List.mem_map_of_mem k)).symm
    · rcases List.mem_append.mp k with k | k
      · have k' : p.1 ∈ [v, dv, y, dy] ++ SB.map (·.1) := List.mem_map_of_mem (f := (·.1)) k
        rcases List.mem_append.mp k' with k | k
        · exact W4.h _ k x hM'
        · exact (A1.h x (m6 x h5) _ k).symm
      · exact R5.h _ (List.mem_map_of_mem (f := (·.1)) k) x hM'
  exact ⟨ZL, HL, News.sub N (sub_cons (sub _ (.tail _ (.tail _ (.tail _ (.tail _ (.tail _ (.tail _ (.tail _ (.tail _ (.tail _ (.tail _ (.head _)))))))))))) (sub_cons (sub _ (.tail _ (.tail _ (.tail _ (.tail _ (.tail _ (.tail _ (.tail _ (.tail _ (.tail _ (.tail _ (.tail _ (.tail _ (.head _)))))))))))))) (sub_cons (sub _ (.tail _ (.tail _ (.tail _ (.tail _ (.tail _ (.tail _ (.tail _ (.tail _ (.tail _ (.tail _ (.tail _ (.tail _ (.tail _ (.head _))))))))))))))) sZ))), all J (.head _), all ca (.tail _ (.head _)), all cb (.tail _ (.tail _ (.head _)))⟩
theorem line_89 : True := by
  k_with "codeAny" => (guard_expr in_Lu =~ in_Lu; ((with_reducible show codeAny _ _ (Code.call (Value.ref 42) _) _ _); k_dflt (refine' law_start (by assumption) (by k_extra "m stay") (by k_extra "m room") (by k_extra "m room") (by with_reducible assumption) (by k_extra "m own") ?_); intros; k_extra "m upS"))
  exact trivial
theorem line_90 : True := by
  k_with "codeC" => (guard_expr in_Lu =~ in_Lu; ((with_reducible show codeC _ _ (Code.call (Value.ref 56) _) _ _); k_dflt (refine' law_finish (by assumption) (by k_extra "m stay") (by k_extra "m room") (by k_extra "m room") (by with_reducible assumption) (by k_extra "m own") ?_); intros; k_extra "m upS"))
  exact trivial
theorem line_91 : True := by
  k_with "codeC" => (guard_expr in_Lu =~ in_Lu; ((with_reducible show codeC _ _ (Code.call (Value.ref 646) _) _ _); k_dflt (refine' law_turn (by assumption) (by k_extra "m stay") (by k_extra "m room") (by k_extra "m room") (by with_reducible assumption) (by k_extra "m own") (by k_extra "m nqt") (by assumption) ?_); intros; k_extra "m upS"))
  exact trivial
theorem line_92 : True := by
  k_with "m inst" => (guard_expr in_Lu =~ in_Lu; first | exact lww_start (by with_reducible assumption) | exact lww_finish (by with_reducible assumption))
  exact trivial
theorem line_93 : True := by
  k_with "wpC" => (guard_expr in_Lu =~ in_Lu; ((with_reducible show wpC _ _ (exec (Stmt.If (Expr.UnaryOp _ _ _) _ _ _) _) _ _); k_dflt (refine c_If (c_not (c_plain ?_)))))
  exact trivial
theorem line_94 : True := by
  k_with "wpC" => (guard_expr in_Lu =~ in_Lu; ((with_reducible show wpC _ _ (exec (Stmt.Return (some (Expr.Compare _ _ _ _)) _) _) _ _); k_dflt (refine c_Return (c_Compare ?_))))
  exact trivial
theorem tail_of {P : List Stmt → Scope → Prop} {n a b d r tp sc ts bd ps} (he : stm 48 = .FunctionDef n a b d r tp sc ts bd ps) (h : P (b.drop 8) sc) : P ((fBody (stm 48)).drop 8) (fScope (stm 48)) := by
  rw [he]; exact h
section
variable {w : World} {dp un : Nat} {fr : Option (List Env)} {gd : Option (List Code)} {s : Shared} {R : Result → Shared → Prop}
theorem law_tail {g : Heap} {L : Addr} {h₁ : Heap} {tk : Nat} {mean : ExcName → Option Value} {mg mb : Str → Option Value} {J v r sc TD LD scr SD sk : Addr} {x y : Int} {t1 t2 : Tok} {n many low : Nat} {q bd : Bool} {ds as : Nat → Int} {en : Int} {ZL : List (Addr × Obj)} {c1 c2 : Obj}
  (hd : dp + 40 < recursionLimit) (hu : un + 600 < cLine) (X₁ : (kk w.params).In g) (T₁ : Top vq (looseW vq lo) mean mg mb g) (C' : Stc w g) (dc1 : c1.data = .cell (some (.ref J)))
  (F : Fr g L h₁ (fun y => if y = Str.ofString "reader" then some (.ref r) else if y = Str.ofString "writer" then some (.ref v) else if y = Str.ofString "sink" then some (.ref sk) else if y = Str.ofString "tables" then some (.ref TD) else if y = Str.ofString "scan" then some (.ref sc) else if y = Str.ofString "slots" then some (.ref SD) else if y = Str.ofString "is_dc" then some (.bool bd) else if y = Str.ofString "lists" then some (.ref LD) else if y = Str.ofString "script" then some (.ref scr) else none))
  (N : News g L h₁ ((J, listOf #[.int x t1, .int y t2] n) :: (L + 1 + 1, c2) :: (L + 1, c1) :: ZL)) (HL : Law w v r sc TD LD many q ds as en low ZL) (nj : NqL J (ZL.map (·.1))) (n2 : NqL (L + 1 + 1) (ZL.map (·.1))) (n1 : NqL (L + 1) (ZL.map (·.1))) (a1 : Nq J (L + 1)) (a2 : Nq J (L + 1 + 1)) (hq : QOk q en low)
  (ret : ∀ (h' : Heap) (tk' : Nat), g.StaysIn h' → R (.ok (.ret (.bool true))) { s with heap := h', toks := tk' }) :
  wpC (model pw w) ((ar dp fr gd un).deeper (envOfC (Str.ofString "law") (fScope (stm 48)) L 651 (.ref 650))) (execs ((fBody (stm 48)).drop 8) (envOfC (Str.ofString "law") (fScope (stm 48)) L 651 (.ref 650))) (fun fl s' => R (.ok (.ret (match fl with | .ret v => v | _ => .none))) s') { s with heap := h₁, toks := tk } := by
  refine tail_of (P := fun b sc => wpC (model pw w) ((ar dp fr gd un).deeper (envOfC (Str.ofString "law") sc L 651 (.ref 650))) (execs b (envOfC (Str.ofString "law") sc L 651 (.ref 650))) (fun fl s' => R (.ok (.ret (match fl with | .ret v => v | _ => .none))) s') { s with heap := h₁, toks := tk }) rfl ?_
  dsimp only [List.drop]
  k_extra "k_steps"
  refine c_For ?_
  k_extra "k_steps"
  rename IsRange _ _ _ _ _ _ _ _ => mR; rename Fr _ _ _ _ => F5; rename News _ _ _ _ => N5
  rename_i vv x8 y8 _ t18 t28 n8 _ _ hvv _ _ _ _ _ _
  have hm2 : (2 + (vv : Int)) = ((vv + 2 : Nat) : Int) := by (first | lia | omega)
  rw [hm2] at mR
  refine' c_range (n := vv + 2) (fun i m news => ∃ x' y' t1' t2' n' ZL' u, m = (fun y => if y = Str.ofString "turn" then u else if y = Str.ofString "reader" then some (.ref r) else if y = Str.ofString "writer" then some (.ref v) else if y = Str.ofString "sink" then some (.ref sk) else if y = Str.ofString "tables" then some (.ref TD) else if y = Str.ofString "scan" then some (.ref sc) else if y = Str.ofString "slots" then some (.ref SD) else if y = Str.ofString "is_dc" then some (.bool bd) else if y = Str.ofString "lists" then some (.ref LD) else if y = Str.ofString "script" then some (.ref scr) else none)
    ∧ news = (J, listOf #[.int x' t1', .int y' t2'] n') :: (L + 1 + 1, c2) :: (L + 1, c1) :: ZL' ∧ Law w v r sc TD LD many q ds as en low ZL' ∧ NqL J (ZL'.map (·.1)) ∧ NqL (L + 1 + 1) (ZL'.map (·.1)) ∧ NqL (L + 1) (ZL'.map (·.1))) (by rfl) (by rfl) (by rfl) mR (rsmall (by (first | lia | omega))) (rsize (vv + 2)) F5 N5 ?h0 ?turn ?done
  case h0 => exact mk7 (a6 := none) ⟨by k_extra "m map", rfl, HL, nj, n2, n1⟩
  case turn =>
    clear F5 N5 HL nj n1 n2 mR
    intro I i t m news h tk o lI hi3 hJ hI F6 N6
    clear lI
    (with_reducible refine ex7 hJ ?_); clear hJ; intro x' y' t1' t2' n' ZL' u hJ
    (with_reducible refine conj6 hJ ?_); clear hJ; intro hm9 hn9 HL nj n2 n1
    replace F6 := Fr.castR hm9 F6; replace N6 := News.castT hn9 N6; rw [hn9] at hI; replace hI := NqL.ofne hI; dsimp only [List.map] at hI; clear hm9 hn9
    (show wpC _ _ _ _ _)
    k_extra "k_steps"
    rename Fr _ _ _ _ => F9; rename News _ _ _ _ => N9; rename Law _ _ _ _ _ _ _ _ _ _ _ _ _ => HL9
    rename_i x9 y9 t19 t29 n9 ZL9 _ _ nj9
    refine' TEnd.nextF F9 (News.sub N9 (S := (I, o) :: (J, listOf #[.int x9 t19, .int y9 t29] n9) :: (L + 1 + 1, c2) :: (L + 1, c1) :: ZL9) (by k_extra "m sb")) ?zo (mk7 ⟨?zm, rfl, HL9, nj9, ?z2, ?z1⟩)
    case zo => exact all_ne (NqL.cons (kzL.l (.head _)).hd (NqL.cons hI.tl.hd (NqL.cons hI.tl.tl.hd (kzL.l (.head _)).tl)))
    case zm => k_extra "m map"
    case z2 => exact (kzL.l (.tail _ (.head _))).tl
    case z1 => exact (kzL.l (.tail _ (.tail _ (.head _)))).tl
  case done =>
    clear F5 N5 HL nj n1 n2 mR
    intro m news h tk hJ F6 N6
    (with_reducible refine ex7 hJ ?_); clear hJ; intro x' y' t1' t2' n' ZL' u hJ
    (with_reducible refine conj6 hJ ?_); clear hJ; intro hm9 hn9 HL nj n2 n1
    replace F6 := Fr.cast hm9 F6; replace N6 := News.cast hn9 N6; clear hm9 hn9
    k_extra "k_steps"
    exact ret _ _ (Fr.keep (by with_reducible assumption))
end
end
section
namespace G_Lv
theorem in_Lv : True := trivial
end G_Lv
open G_Lv
inductive SlV (many : Nat) (vals : List Value) (T : List (Addr × Obj)) (j : Nat) : Prop
  | mk (S : Addr) (vs : List Value) (ns : List Int) (n : Nat) (e1 : vals[j]? = some (.ref S)) (e2 : (S, listOf (List.toArray vs) n) ∈ T) (e3 : IntsAre vs ns) (e4 : vs.length = many) (e5 : ∀ c ∈ ns, c = 0 ∨ c = 1) : SlV many vals T j
def Sl (many : Nat) (vals : List Value) (T : List (Addr × Obj)) (i : Nat) : Prop := ∀ j, j < i → SlV many vals T j
theorem snoc01 {ns : List Int} {v : Nat} (h : ∀ c ∈ ns, c = 0 ∨ c = 1) (hv : (v : Int) < 2) : ∀ c ∈ ns ++ [(v : Int)], c = 0 ∨ c = 1 := fun c hc => by
  rcases List.mem_append.mp hc with q | q
  · exact h c q
  · rw [List.mem_singleton.mp q]; (first | lia | omega)
theorem Sl.snoc {many i : Nat} {vals vs : List Value} {T : List (Addr × Obj)} {D : Addr} {k : Nat} {ns : List Int} (H : Sl many vals T i) (hl : vals.length = i) (hv : IntsAre vs ns) (hn : vs.length = many) (h01 : ∀ c ∈ ns, c = 0 ∨ c = 1) : Sl many (vals ++ [.ref D]) ((D, listOf (List.toArray vs) k) :: T) (i + 1) := fun j hj => by
  rcases Nat.lt_or_ge j i with h | h
  · obtain ⟨S, vs', ns', n, e1, e2, e3, e4, e5⟩ := H j h
    exact ⟨S, vs', ns', n, by rw [List.getElem?_append_left (by rw [hl]; exact h)]; exact e1, .tail _ e2, e3, e4, e5⟩
  · obtain rfl : j = i := by (first | lia | omega)
    exact ⟨D, vs, ns, k, by rw [List.getElem?_append_right (by rw [hl]; exact Nat.le_refl _), hl, Nat.sub_self]; rfl, .head _, hv, hn, h01⟩
theorem line_95 : True := by
  k_with "m offs" => (guard_expr in_Lv =~ in_Lv; (dsimp only [envOfC, compEnvC, Off]; k_extra "m off"))
  exact trivial
theorem line_96 : True := by
  k_with "subscriptTail" => (guard_expr in_Lv =~ in_Lv; (k_here; (with_reducible show wpAny _ _ (subscriptTail _ _ (Value.ref _) (Value.int 0 _)) _ _ _); k_dflt (refine' lst_itemM (j := 0) (by k_asm) (by k_mem) (by assumption) (by exact rfl) (by decide) ?_)))
  exact trivial
theorem line_97 : True := by
  k_with "subscriptTail" => (guard_expr in_Lv =~ in_Lv; (k_here; (with_reducible show wpAny _ _ (subscriptTail _ _ (Value.ref _) (Value.int 1 _)) _ _ _); k_dflt (refine' lst_itemM (j := 1) (by k_asm) (by k_mem) (by assumption) (by exact rfl) (by decide) ?_)))
  exact trivial
theorem line_98 : True := by
  k_with "call type:list" => (guard_expr in_Lv =~ in_Lv; (k_here; (with_reducible show wpAny _ _ (call (Value.type _) [Value.ref _]) _ _ _); k_dflt (refine' kll_range (by with_unfolding_all rfl) (by k_asm) (by k_asm) (by assumption) (by exact rsmall (by (first | lia | omega))) (by exact rsize _) (by (first | lia | omega)) ?_); intro kzD us' c' kzh kzt kzF kzN kz1 kzI; (try k_lt kz1); (try k_sweep)))
  exact trivial
theorem line_99 : True := by
  k_with "eval ListComp" => (guard_expr in_Lv =~ in_Lv; ((show wpAny _ _ _ _ _ _; refine stop ?_)))
  exact trivial
theorem line_100 : True := by
  k_with "wpC" => (guard_expr in_Lv =~ in_Lv; ((with_reducible show wpC _ _ (exec (Stmt.Assign [Expr.Name _ _] (Expr.ListComp _ _ _ _) _) _) _ _); k_dflt (refine stop ?_)))
  exact trivial
theorem line_101 : True := by
  k_with "m upT" => (guard_expr in_Lv =~ in_Lv; (k_dflt ((rename Step _ _ _ _ _ => kzS); (try dsimp only at kzS); (refine Step.updK (by k_asm) (by k_asm) kzS (by k_extra "m own") (by k_extra "m selB") ?_); (intro kzF kzN kzL); (dsimp only [List.map, List.nil_append, List.cons_append] at kzN kzL); (clear kzS)); (try k_sweep)))
  exact trivial
theorem line_102 : True := by
  k_with "m nqt" => (guard_expr in_Lv =~ in_Lv; first | exact NqL.tl (NqL.tl (NqL.tl (NqL.tl (NqL.tl (NqL.tl (by with_reducible assumption)))))) | exact NqL.tl (NqL.tl (NqL.tl (NqL.tl (NqL.tl (NqL.tl (NqL.tl (by with_reducible assumption))))))) | exact NqL.tl (NqL.tl (NqL.tl (NqL.tl (NqL.tl (NqL.tl (NqL.tl (NqL.tl (by with_reducible assumption)))))))) | exact NqL.tl (NqL.tl (NqL.tl (NqL.tl (NqL.tl (NqL.tl (NqL.tl (NqL.tl (NqL.tl (by with_reducible assumption))))))))) | exact NqL.tl (NqL.tl (NqL.tl (NqL.tl (NqL.tl (NqL.tl (NqL.tl (NqL.tl (NqL.tl (NqL.tl (by with_reducible assumption)))))))))) | exact NqL.tl (NqL.tl (NqL.tl (NqL.tl (NqL.tl (NqL.tl (NqL.tl (NqL.tl (NqL.tl (NqL.tl (NqL.tl (by with_reducible assumption))))))))))) | exact NqL.tl (NqL.tl (NqL.tl (NqL.tl (NqL.tl (NqL.tl (NqL.tl (NqL.tl (NqL.tl (NqL.tl (NqL.tl (NqL.tl (by with_reducible assumption)))))))))))) | exact NqL.tl (NqL.tl (NqL.tl (NqL.tl (NqL.tl (NqL.tl (NqL.tl (NqL.tl (NqL.tl (NqL.tl (NqL.tl (NqL.tl (NqL.tl (by with_reducible assumption))))))))))))) | exact NqL.tl (NqL.tl (NqL.tl (NqL.tl (NqL.tl (NqL.tl (NqL.tl (NqL.tl (NqL.tl (NqL.tl (NqL.tl (NqL.tl (NqL.tl (NqL.tl (by with_reducible assumption)))))))))))))) | exact NqL.tl (NqL.tl (NqL.tl (NqL.tl (NqL.tl (NqL.tl (NqL.tl (NqL.tl (NqL.tl (NqL.tl (NqL.tl (NqL.tl (NqL.tl (NqL.tl (NqL.tl (by with_reducible assumption))))))))))))))) | exact NqL.tl (NqL.tl (NqL.tl (NqL.tl (NqL.tl (NqL.tl (NqL.tl (NqL.tl (NqL.tl (NqL.tl (NqL.tl (NqL.tl (NqL.tl (NqL.tl (NqL.tl (NqL.tl (by with_reducible assumption)))))))))))))))) | exact NqL.tl (NqL.tl (NqL.tl (NqL.tl (NqL.tl (NqL.tl (NqL.tl (NqL.tl (NqL.tl (NqL.tl (NqL.tl (NqL.tl (NqL.tl (NqL.tl (NqL.tl (NqL.tl (NqL.tl (by with_reducible assumption))))))))))))))))) | exact NqL.tl (NqL.tl (NqL.tl (NqL.tl (NqL.tl (NqL.tl (NqL.tl (NqL.tl (NqL.tl (NqL.tl (NqL.tl (NqL.tl (NqL.tl (NqL.tl (NqL.tl (NqL.tl (NqL.tl (NqL.tl (by with_reducible assumption)))))))))))))))))) | exact NqL.tl (NqL.tl (NqL.tl (NqL.tl (NqL.tl (NqL.tl (NqL.tl (NqL.tl (NqL.tl (NqL.tl (NqL.tl (NqL.tl (NqL.tl (NqL.tl (NqL.tl (NqL.tl (NqL.tl (NqL.tl (NqL.tl (by with_reducible assumption))))))))))))))))))))
  exact trivial
theorem line_103 : True := by
  k_with "codeAny" => (guard_expr in_Lv =~ in_Lv; ((with_reducible show codeAny _ _ (Code.call (Value.ref 610) _) _ _); k_dflt (refine' ltabT (by assumption) (by k_extra "m stay") (by k_extra "m room") (by k_extra "m room") (by assumption) (by assumption) (by k_extra "m own") ?_); intros; k_extra "m upS"))
  exact trivial
theorem line_104 : True := by
  k_with "wpC" => (guard_expr in_Lv =~ in_Lv; ((with_reducible show wpC _ _ (execs (Stmt.For _ _ _ _ _ :: _) _) _ _); k_dflt (refine stop ?_)))
  exact trivial
theorem line_105 : True := by
  k_with "m asb" => (guard_expr in_Lv =~ in_Lv; first | exact asb0 | exact asbc (by k_extra "m am") (by k_extra "m asb"))
  exact trivial
theorem line_106 : True := by
  k_with "codeC" => (guard_expr in_Lv =~ in_Lv; ((with_reducible show codeC _ _ (Code.call (Value.ref 558) _) _ _); k_dflt (refine' sk_init (by assumption) (by k_extra "m stay") (by k_extra "m room") (by k_extra "m room") (by k_extra "m nq") (by k_extra "m own") ?_); intros; k_extra "m upT"))
  exact trivial
inductive JV1 (J L : Addr) (c1 c2 : Obj) (mn : Nat) (LB : List (Addr × Obj)) (i : Nat) (vals : List Value) (news : List (Addr × Obj)) : Prop
  | mk (x' y' : Int) (t1' t2' : Tok) (n' : Nat) (T : List (Addr × Obj)) (e : news = (J, listOf #[.int x' t1', .int y' t2'] n') :: (L + 1 + 1, c2) :: (L + 1, c1) :: T) (s : ∀ p ∈ LB, p ∈ T) (S : Sl mn vals T i) (A : Apt [J, L + 1 + 1, L + 1] (T.map (·.1))) : JV1 J L c1 c2 mn LB i vals news
inductive JV2 (J L D I : Addr) (oL oI c1 c2 : Obj) (vals : List Value) (kD : Nat) (T : List (Addr × Obj)) (vals2 : List Value) (news : List (Addr × Obj)) : Prop
  | mk (x' y' : Int) (t1' t2' : Tok) (n' : Nat) (e : news = (L, oL) :: (D, listOf (List.toArray vals) kD) :: (I, oI) :: (J, listOf #[.int x' t1', .int y' t2'] n') :: (L + 1 + 1, c2) :: (L + 1, c1) :: T) (ns : List Int) (h : IntsAre vals2 ns) (h1 : ∀ c ∈ ns, c = 0 ∨ c = 1) : JV2 J L D I oL oI c1 c2 vals kD T vals2 news
section
variable {w : World} {dp un : Nat} {fr : Option (List Env)} {gd : Option (List Code)} {h₀ : Heap} {s : Shared} {R : Result → Shared → Prop}
theorem law_walk (C : Stc w h₀) (k : h₀.StaysIn s.heap) {X : Addr}
  {scr : Addr} {vs : List Value} {ns : List Int} {n : Nat} (hd : dp + 40 < recursionLimit) (hu : un + 600 < cLine) (O : News h₀ X s.heap ([])) (hs : s.heap.get? scr = some (listOf (List.toArray vs) n)) (hv : IntsAre vs ns) (hl : vs.length ≤ 1000)
  (ret : ∀ (h' : Heap) (tk' : Nat), Step X s.heap h' ([]) ([]) → R (.ok (.ret (.bool true))) { s with heap := h', toks := tk' }) :
  codeC (model pw w) (ar dp fr gd un) (.call (.ref 651) ⟨[.ref scr], []⟩) R s := by
  refine' beginXC ([]) [(Str.ofString "script", .ref scr)] (st := stm 48) C k (News.ent O) ?ho ?he ?hcd ?hroom ?hbind ?hsc ?hnd ?_
  case ho => k_is
  case he => exact rfl
  case hcd => k_is
  case hroom => exact lt_of_add hd
  case hbind => exact rfl
  case hsc => exact rfl
  case hnd => decide +kernel
  intro g L h₁ mean mg mb tk cells F N Y lS X₁ T₁ En C' K
  k_cells Y
  (try simp only [List.cons_append, List.nil_append] at N)
  have lS1 := NqL.of_add lS 1
  have lS2 := NqL.of_add lS 2
  dsimp only [List.map] at lS1 lS2
  k_lt lS
  have e1 := En.ro (a := scr) NqL.nil hs
  have V := cover_LS
  rename_i o1 o2 d1 d2
  replace F : Fr g L h₁ (fun y => if y = Str.ofString "script" then some (.ref scr) else none) := F
  k_extra "k_steps"
  rename_i J _ _ _ _ _ _ _ lA LD LB KB xs _ _ hKB hLB DT _ lD _ _ _
  have a1 : Nq J (L + 1) := (lA.h _ (.tail _ (.head _)) _ (.head _)).symm
  have a2 : Nq J (L + 1 + 1) := (lA.h _ (.head _) _ (.head _)).symm
  have a3 : Apt [J, L + 1 + 1, L + 1] (LB.map (·.1)) := kzL
  k_extra "k_steps"
  rename Fr _ _ _ _ => F5; rename News _ _ _ _ => N5
  rename_i c1 dc1 _ vm _ _ _ _ _ _ _ _ hvm _ vq xj yj _ tj1 tj2 nj _ _ hvq D2 _ l2 _ _ c2 dc2 _
  have hmc : (1 + (vm : Int)) = ((vm + 1 : Nat) : Int) := by (first | lia | omega)
  rw [hmc] at dc2
  have hm3 : vm + 1 ≤ 3 := by (first | lia | omega)
  have hm0 : 0 < vm + 1 := Nat.succ_pos _
  generalize vm + 1 = mn at dc2 hm3 hm0
  have N6 := News.sub N5 (S := (J, listOf #[.int xj tj1, .int yj tj2] nj) :: (L + 1 + 1, c2) :: (L + 1, c1) :: LB) (by k_extra "m sb")
  clear N5 l2 kzL lD lA
  refine wpC.of ?_
  refine' comp_enterU (by with_unfolding_all rfl) ?zcl ?zk ?zn ?_
  case zcl => exact rfl
  case zk => exact rfl
  case zn => decide +kernel
  k_extra "k_steps"
  rename IsRange _ _ _ _ _ _ _ _ => mR; rename Fr _ _ _ _ => F7; rename News _ _ _ _ => N7
  refine' comp_rangeV (n := 2) (JV1 J L c1 c2 mn LB) (by rfl) (by decide +kernel) (by rfl) (by rfl) mR (by decide) (by decide) (by (first | lia | omega)) F7 N7 ⟨_, _, _, _, _, LB, rfl, fun _ h => h, fun j hj => absurd hj (Nat.not_lt_zero j), a3⟩ ?cturn (by rfl) (by rfl) ?cdone
  case cturn =>
    rintro I Cc D oL oI i t vals kD mc news h tk hi ⟨x', y', t1', t2', n', T, rfl, hLT, hSl, hA⟩ hl F6 N6 a1 a2 a3 a4 a5 a6 a7
    replace a5 := NqL.of_off a5
    replace a6 := NqL.of_off a6
    replace a7 := NqL.of_off a7
    dsimp only [List.map, envOfC] at F6 N6 a1 a2 a4 a5 a6 a7
    k_extra "k_steps"
    refine' comp_enter ?icl ?ik ?inn ?_
    case icl => exact rfl
    case ik => exact rfl
    case inn => decide +kernel
    k_extra "k_steps"
    rename IsRange _ _ _ _ _ _ _ _ => mR2; rename Fr _ _ _ _ => F9; rename News _ _ _ _ => N9
    refine' comp_range (n := mn) (fun j vals2 news => JV2 J L D I oL oI c1 c2 vals kD T vals2 news) (by rfl) (by decide +kernel) (by rfl) (by rfl) mR2 (rsmall (by (first | lia | omega))) (rsize mn) (by (first | lia | omega)) F9 N9 ⟨_, _, _, _, _, rfl, [], .nil, fun _ h => nomatch h⟩ ?iturn ?idone
    case iturn =>
      rintro I2 Cc2 D2 oC oI2 j t2 vals2 kD2 mc2 news h tk hj ⟨x', y', t1', t2', n', rfl, ns, hv2, h01⟩ hl2 F6 N6 b1 b2 b3 b4 b5 b6 b7
      replace b5 := NqL.of_off b5
      replace b6 := NqL.of_off b6
      replace b7 := NqL.of_off b7
      dsimp only [List.map, envOfC, compEnvC] at F6 N6 b1 b2 b4 b5 b6 b7
      k_extra "k_steps"
      k_extra "m junk"
      exact ⟨_, _, _, _, rfl, by assumption, News.sub (by assumption) (by k_extra "m sb"), by k_extra "m offs", by k_extra "m offs", by k_extra "m offs", _, _, _, _, _, rfl, _, ints_snoc hv2 _ _, snoc01 h01 (by assumption)⟩
    case idone =>
      rintro D2 h tk vals2 kD2 news hl2 ⟨x', y', t1', t2', n', rfl, ns, hv2, h01⟩ F6 N6 b1
      replace b1 := NqL.of_off b1
      dsimp only [List.map, envOfC, compEnvC] at F6 N6 b1
      exact ⟨_, _, _, _, rfl, F6, News.sub N6 (S := (L, oL) :: (D, listOf (List.toArray vals) kD) :: (I, oI) :: (J, listOf #[.int x' t1', .int y' t2'] n') :: (L + 1 + 1, c2) :: (L + 1, c1) :: (D2, listOf (List.toArray vals2) kD2) :: T) (by k_extra "m sb"),
        all_ne (NqL.cons a5.hd (NqL.cons a5.tl.hd (NqL.cons a5.tl.tl.hd (NqL.cons b1.hd.symm a5.tl.tl.tl)))), all_ne (NqL.cons a6.hd (NqL.cons a6.tl.hd (NqL.cons a6.tl.tl.hd (NqL.cons b1.tl.hd.symm a6.tl.tl.tl)))), all_ne (NqL.cons a7.hd (NqL.cons a7.tl.hd (NqL.cons a7.tl.tl.hd (NqL.cons b1.tl.tl.hd.symm a7.tl.tl.tl)))),
        _, _, _, _, _, (D2, listOf (List.toArray vals2) kD2) :: T, rfl, fun p hp => .tail _ (hLT p hp), hSl.snoc hl hv2 hl2 h01, Apt.cons (NqL.cons b1.tl.tl.tl.hd.symm (hA.l (.head _))) (Apt.cons (NqL.cons b1.tl.tl.tl.tl.hd.symm (hA.l (.tail _ (.head _)))) (Apt.cons (NqL.cons b1.tl.tl.tl.tl.tl.hd.symm (hA.l (.tail _ (.tail _ (.head _))))) Apt.nil))⟩
  case cdone =>
    rintro SD h tk vals kD news hl ⟨x', y', t1', t2', n', T, rfl, hLT, hSl, hA⟩ F6 N6 aS
    replace aS := NqL.of_off aS
    dsimp only [List.map] at aS
    obtain ⟨S0, vs0, ns0, n0, e0, m0, i0, l0, h0⟩ := hSl 0 (by decide)
    obtain ⟨S1, vs1, ns1, n1, e1', m1, i1, l1, h1⟩ := hSl 1 (by decide)
    have hTX : ∀ h, Holds T h → LX w h LD KB xs := fun h hh => hLB h (hold_sub hh hLT)
    have hKT : ∀ p ∈ KB, p ∈ T := fun p hp => hLT p (hKB p hp)
    rcases Nat.eq_zero_or_pos vq with hv0 | hv0
    · have hb : ((vq : Int) == 0) = true := by rw [hv0]; rfl
      rw [hb] at F6
      k_extra "k_steps"
      rename Fr _ _ _ _ => F8; rename News _ _ _ _ => N8
      rename_i qD lw _ _ _ _ _ _ _ _ hlw _ sc dsc _ qsc qds _ _ _ _ _ _ _ _ _ _ _ TD TT _ _ HTab A0 _ sk _ _ _ _ SB _ _ BS A1 _ y3 dy _ qy qdy _ _ _ _ _ _ _ v3 dv _ qv qdv _ _ _ _ _ _ z3 dz _ qz qdz _ _ _ _ _ _ _ _ _ _ _ _ _
      have hus := kzI.length
      obtain ⟨ZL, HL, N9, nJ, nA, nB⟩ := law_make (J := J) (ca := L + 1 + 1) (cb := L + 1) (oa := c2) (ob := c1) (w := w) (many := mn) (low := lw) (q := true) (en := 0) (ds := fun i => ns0.getD i 0) (as := fun i => ns1.getD i 0) N8 BS (fun BB hB A => .dc (.mk dv y3 dy sk _ _ _ _ _ _ _ BB hB A qdv.tl.hd.symm)) (.dc0 (.mk kzd z3 dz _ _ _ _ _ _ _ _ _ kz1.tl.hd.symm)) kzq kz1 qz qdz qv qdv qy qdy qsc qds qD A0 A1
        (fun h hh => ⟨HTab h (hold_sub hh fun p hp => .tail _ (.tail _ (.tail _ hp))), (hTX h (hold_sub hh fun p hp => .tail _ (.tail _ (.tail _ (List.mem_append_right _ hp))))).lsts,
          scan_made (hh _ (.head _)) (hh _ (.tail _ (.head _))) (hh _ (.tail _ (.tail _ (.head _)))) (hh _ (.tail _ (.tail _ (.tail _ (List.mem_append_right _ m0))))) (hh _ (.tail _ (.tail _ (.tail _ (List.mem_append_right _ m1))))) (hus.trans (by simp [rangeKs])) i0 i1 l0 l1 h0 h1 ⟨hm0, hm3⟩⟩)
        (by k_extra "m asb") (fun x hx => .tail _ (.tail _ (.tail _ (.tail _ (.tail _ hx))))) (by k_extra "m asb") (by k_extra "m asb") (by k_extra "m asb") (by k_extra "m asb") (fun x hx => .tail _ (.tail _ (.tail _ (.tail _ (.tail _ (.tail _ (.tail _ hx)))))))
        (by k_extra "m sb")
      exact law_tail hd hu X₁ T₁ C' dc1 F8 N9 HL nJ nA nB a1 a2 ⟨rfl, by (first | lia | omega)⟩ fun h' tk' hk => ret h' tk' ⟨fun b o _ ho => hk b o (En.rest b o (fun h => nomatch h) ho), fun p hp => (nomatch hp), fun h => (nomatch h)⟩
    · have hb : ((vq : Int) == 0) = false := beq_false_of_ne (by (first | lia | omega))
      rw [hb] at F6
      k_extra "k_steps"
      rename Fr _ _ _ _ => F8; rename News _ _ _ _ => N8
      rename_i qD sc dsc _ qsc qds _ _ _ _ _ _ _ _ _ _ _ TD TT _ _ HTab A0 _ sk _ _ _ _ SB _ _ BS A1 _ y3 dy _ qy qdy _ _ _ _ _ _ _ _ _ v3 dv _ qv qdv _ _ _ _ _ _ z3 dz _ qz qdz _ _ _ _ _ _ _ _ _ _ _ _ _ _ _
      have hus := kzI.length
      obtain ⟨ZL, HL, N9, nJ, nA, nB⟩ := law_make (J := J) (ca := L + 1 + 1) (cb := L + 1) (oa := c2) (ob := c1) (w := w) (many := mn) (low := 0) (q := false) (en := 3) (ds := fun i => ns0.getD i 0) (as := fun i => ns1.getD i 0) N8 BS (fun BB hB A => .sq (.mk dv y3 dy sk _ _ _ _ _ _ _ _ _ BB hB A qdv.tl.hd.symm)) (.sq0 (.mk kzd z3 dz _ _ _ _ _ _ _ _ _ _ _ kz1.tl.hd.symm)) kzq kz1 qz qdz qv qdv qy qdy qsc qds qD A0 A1
        (fun h hh => ⟨HTab h (hold_sub hh fun p hp => .tail _ (.tail _ (.tail _ hp))), (hTX h (hold_sub hh fun p hp => .tail _ (.tail _ (.tail _ (List.mem_append_right _ hp))))).lsts,
          scan_made (hh _ (.head _)) (hh _ (.tail _ (.head _))) (hh _ (.tail _ (.tail _ (.head _)))) (hh _ (.tail _ (.tail _ (.tail _ (List.mem_append_right _ m0))))) (hh _ (.tail _ (.tail _ (.tail _ (List.mem_append_right _ m1))))) (hus.trans (by simp [rangeKs])) i0 i1 l0 l1 h0 h1 ⟨hm0, hm3⟩⟩)
        (by k_extra "m asb") (fun x hx => .tail _ (.tail _ (.tail _ (.tail _ (.tail _ hx))))) (by k_extra "m asb") (by k_extra "m asb") (by k_extra "m asb") (by k_extra "m asb") (fun x hx => .tail _ (.tail _ (.tail _ (.tail _ (.tail _ (.tail _ (.tail _ hx)))))))
        (by k_extra "m sb")
      exact law_tail hd hu X₁ T₁ C' dc1 F8 N9 HL nJ nA nB a1 a2 ⟨rfl, rfl⟩ fun h' tk' hk => ret h' tk' ⟨fun b o _ ho => hk b o (En.rest b o (fun h => nomatch h) ho), fun p hp => (nomatch hp), fun h => (nomatch h)⟩
end
end
end Mine
open PySem PySem.W PyProof.Rows PySem.Calls PySem.Spec
set_option Elab.async false
set_option linter.unusedVariables false
namespace Mine
set_option maxRecDepth 100000
set_option maxHeartbeats 8000000
example : (PySem.Challenge.rw_pf0245_01 = PySem.Challenge.rw_pf0245_01) ∧ (kk = kk) := by
  k_fill
  exact ⟨rfl, rfl⟩
theorem room1 : 1 + claimMargin + 40 < recursionLimit := by unfold claimMargin recursionLimit; (first | lia | omega)
theorem room2 : 4 + 600 < cLine := by unfold cLine; (first | lia | omega)
theorem news_nil {g h : Heap} {X : Addr} : News g X h [] := fun _ h => nomatch h
theorem len_le {vals : List Value} {ns : List Int} (hI : IntsAre vals ns) (hc : ¬ ((63 : Nat) : Int) < (ns.length : Int)) : vals.length ≤ 1000 := by rw [hI.length]; (first | lia | omega)
theorem good_true {c : ClaimW} {cl : Str → Option Addr} {mean : ExcName → Option Value} {args : List WData} {s₁ : Shared} {h' : Heap} {tk' : Nat} {X : Addr} (St : Step X s₁.heap h' [] []) (hg : s₁.gens = #[]) (hr : ∀ cls, c.raises args cls = false) (hp : c.post args (.bool true) args = true) : GoodWG c cl mean args s₁ (.ok (.ret (.bool true))) { s₁ with heap := h', toks := tk' } :=
  GoodW.toG ⟨.inl ⟨_, .bool true, [], rfl, hr, .bool true, hp, fun _ => ⟨List.nodup_nil, fun _ h => nomatch h⟩⟩, fun b o e => St.keep b o (fun h => nomatch h) e, rfl, hg⟩
theorem ofPys_ints : ∀ ns : List Int, ∃ ds, ofPy (.list (List.map PyData.int ns)) = .list ds := fun ns => ⟨_, rfl⟩
theorem well_ints {P : Params} {h : Heap} {a : Addr} {ns : List Int} {vals : List Value} (w1 : Well P h (.ref a) (ofPy (.list (List.map PyData.int ns)))) (hL : h.IsList a vals.toArray) : h.get? a = some (listOf vals.toArray 0) := by
  obtain ⟨ds, e⟩ := ofPys_ints ns
  rw [e] at w1
  cases w1 with
  | list e1 _ =>
    obtain ⟨o, e2, _, n, e3⟩ := hL
    rw [e1] at e2
    obtain rfl := Option.some.inj e2
    injection e3 with e4 e5
    rw [e1, e4]
theorem law_at {w : World} {h : Heap} {mg : Str → Option Value} (KX : (kk w.params).In h) (G : h.Ns mainGlobals mg) : mg (Str.ofString "law") = some (.ref 651) := mg_of KX G (by k_is)
theorem law_fa {w : World} {h : Heap} {mg : Str → Option Value} {fa : Addr} {n : Str} (KX : (kk w.params).In h) (G : h.Ns mainGlobals mg) (e : mg n = some (.ref fa)) (hn : n = Str.ofString "law") : fa = 651 := by
  subst hn
  have e2 := (law_at KX G).symm.trans e
  injection e2 with e2; injection e2 with e2; exact e2.symm
theorem hd : PySem.Challenge.rw_pf0245_01.Holds := by
  refine holds_law hSaid fun said => ?_
  refine holds_clean (q := vq) (loose := lo) (Xt := xt) (XP := XL vq []) (Yf := hk.obs) (Ya := hk.val) (YP := hk.says) (N := 12000) hLeft hk.of hk.keeps (fun s e => xl_of s (Bool.and_eq_true_iff.mp e).1) XL.keeps (by rfl) (by rfl) (by rfl) (fun s e => recFacts_of (Bool.and_eq_true_iff.mp e).2) (by rfl) said (by decide +kernel) ⟨rfl, rfl, rfl, rfl, rfl, by decide +kernel⟩ ?hw ?hc
  case hw => w_witness2
  intro w s₀ s₁ mg mb G Y fa o pm cd doc dV kV ho hd hcd hD hmg hg args vals as hpre hlay hrd hwl hlo
  have KX : (kk w.params).In s₁.heap := Y
  refine Ground.open G ?_
  intro T B D TE TW
  wrow_args hpre hlay hrd hwl hlo
  rename_i ns _ _ _ _ _ _ _ a vals _ hL _ w1 _ hI _ hc _
  obtain rfl := law_fa KX T.g hmg rfl
  refine wpC_call (A := callerA) ?_
  show codeC (model pw w) (ar (1 + claimMargin) (some []) (some []) 4) (.call (.ref 651) ⟨[.ref a], []⟩) _ _
  refine law_walk (X := 0) ⟨KX, _, _, _, T⟩ (fun _ _ e => e) room1 room2 news_nil (well_ints w1 hL) hI (len_le hI hc) fun h' tk' St => ?_
  refine good_true St hg (raisesW_false ?hr) ?hp
  case hr => wrow_none_raised
  case hp => wrow_post
end Mine
theorem PySem.Challenge.cw_pf0245_01_holds : PySem.Challenge.rw_pf0245_01.Holds :=
  Mine.hd

