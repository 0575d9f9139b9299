import PyProof.Rows.All
import Wide.All
import OpenK.AllK
import Wide.FinOn
import PySem.Challenge.RW_sj0197_01
set_option Elab.async false
set_option maxRecDepth 100000
set_option linter.unusedVariables false

namespace Mine
section
set_option maxHeartbeats 8000000
open PySem PySem.W PySem.Calls PyProof.Rows
abbrev PW : Program := PySem.Challenge.pw_sj0197_01
noncomputable def nth : List Stmt → Nat → Stmt
  | [], _ => .Pass ⟨0, 0, 0, 0⟩
  | s :: _, 0 => s
  | _ :: r, n + 1 => nth r n
noncomputable def insOf : Stmt → List Stmt
  | .ClassDef (body := b) .. => b
  | _ => []
noncomputable def stAt (i : Nat) : Stmt := nth PySem.Challenge.pw_sj0197_01.main.body i
noncomputable def methAt (i j : Nat) : Stmt := nth (insOf (stAt i)) j
noncomputable def parOf : Stmt → Arguments
  | .FunctionDef (args := a) .. => a
  | _ => { posonlyargs := [], args := [], vararg := none, kwonlyargs := [], kw_defaults := [], kwarg := none, defaults := [] }
noncomputable def bodOf : Stmt → List Stmt
  | .FunctionDef (body := b) .. => b
  | _ => []
noncomputable def scoOf : Stmt → Scope
  | .FunctionDef (scope := c) .. => c
  | _ => PySem.Challenge.pw_sj0197_01.main.scope
noncomputable def o11v0 (P : Params) : Obj := ⟨.type "tuple", none, .seq (List.toArray []) 0, (List.toArray [])⟩
noncomputable def o12v1 (P : Params) : Obj := ⟨.none, none, .fields (List.toArray []), (List.toArray [])⟩
noncomputable def o13v2 (P : Params) : Obj := ⟨.type "code", none, .fields (List.toArray [.str (Str.ofString "<module>") 182, .str (Str.ofString "<module>") 183, .str (Str.ofString "/claim/cut.py") 184, .int (1) 0, .int (0) 0, .int (0) 0, .int (0) 0, .int (0) 0, .ref 11, .bool false, .int (181) 0, .ref 12, .none, .none, .none, .none, .int (185) 0, .int (1) 0, .str (Str.ofString "/claim/cut.py") 186]), (List.toArray [])⟩
noncomputable def o14v3 (P : Params) : Obj := ⟨.type "frame", none, .plain, (List.toArray [some (.ref 13), some (.ref 3), some (.ref 3), none, some (.str (Str.ofString "__main__") 164), none, some (.ref 0)])⟩
noncomputable def HA (P : Params) : Heap := ⟨Array.mk [(boot_o_0 P), (boot_o_1 P), (boot_o_2 P), (boot_o_3 P), (boot_o_4 P), (boot_o_5 P), (boot_o_6 P), (boot_o_7 P), (boot_o_8 P), (boot_o_9 P), (boot_o_10 P), (o11v0 P), (o12v1 P), (o13v2 P), (o14v3 P)], {}⟩
noncomputable def T0 (P : Params) : BT := (.node (boot_o_0 P) (.node (boot_o_1 P) (.node (boot_o_3 P) (.node (boot_o_7 P) .nil .nil) (.node (o11v0 P) .nil .nil)) (.node (boot_o_5 P) (.node (boot_o_9 P) .nil .nil) (.node (o13v2 P) .nil .nil))) (.node (boot_o_2 P) (.node (boot_o_4 P) (.node (boot_o_8 P) .nil .nil) (.node (o12v1 P) .nil .nil)) (.node (boot_o_6 P) (.node (boot_o_10 P) .nil .nil) (.node (o14v3 P) .nil .nil))))
noncomputable def o3v4 (P : Params) : Obj := ⟨.type "dict", none, .dict (List.toArray [⟨PyData.keyHash P (Str.ofString "__name__"), .str (Str.ofString "__name__") 165, .str (Str.ofString "snobol.values") 233⟩, ⟨PyData.keyHash P (Str.ofString "__doc__"), .str (Str.ofString "__doc__") 166, .none⟩, ⟨PyData.keyHash P (Str.ofString "__package__"), .str (Str.ofString "__package__") 167, .none⟩, ⟨PyData.keyHash P (Str.ofString "__loader__"), .str (Str.ofString "__loader__") 168, .builtin "__main__.__loader__#opaque"⟩, ⟨PyData.keyHash P (Str.ofString "__spec__"), .str (Str.ofString "__spec__") 169, .none⟩, ⟨PyData.keyHash P (Str.ofString "__annotations__"), .str (Str.ofString "__annotations__") 170, .ref 6⟩, ⟨PyData.keyHash P (Str.ofString "__builtins__"), .str (Str.ofString "__builtins__") 171, .ref 4⟩, ⟨PyData.keyHash P (Str.ofString "__file__"), .str (Str.ofString "__file__") 173, .str (Str.ofString "/claim/cut.py") 172⟩, ⟨PyData.keyHash P (Str.ofString "__cached__"), .str (Str.ofString "__cached__") 174, .none⟩, ⟨PyData.keyHash P (Str.ofString "give_names"), .str (Str.ofString "give_names") 198, .ref 21⟩, ⟨PyData.keyHash P (Str.ofString "three_pieces"), .str (Str.ofString "three_pieces") 206, .ref 28⟩, ⟨PyData.keyHash P (Str.ofString "spliced"), .str (Str.ofString "spliced") 218, .ref 35⟩, ⟨PyData.keyHash P (Str.ofString "replace_once"), .str (Str.ofString "replace_once") 232, .ref 42⟩]) 13, (List.toArray [])⟩
noncomputable def o12v5 (P : Params) : Obj := ⟨.none, none, .fields (List.toArray [.int (2) 0, .int (0) 0, .ref 20, .int (5) 0, .int (0) 0, .ref 27, .int (7) 0, .int (0) 0, .ref 34, .int (10) 0, .int (0) 0, .ref 41]), (List.toArray [])⟩
noncomputable def o15v6 (P : Params) : Obj := ⟨.type "tuple", none, .seq (List.toArray []) 0, (List.toArray [])⟩
noncomputable def o16v7 (P : Params) : Obj := ⟨.none, none, .fields (List.toArray []), (List.toArray [])⟩
noncomputable def o17v8 (P : Params) : Obj := ⟨.type "tuple", none, .seq (List.toArray [.str (Str.ofString "found") 192, .str (Str.ofString "give") 193, .str (Str.ofString "ref") 194, .str (Str.ofString "text") 195]) 0, (List.toArray [])⟩
noncomputable def o18v9 (P : Params) : Obj := ⟨.type "tuple", none, .seq (List.toArray []) 0, (List.toArray [])⟩
noncomputable def o19v10 (P : Params) : Obj := ⟨.none, none, .func { name := (Str.ofString "give_names"), qualname := (Str.ofString "give_names"), params := parOf (stAt 1), body := .stmts (bodOf (stAt 1)), scope := scoOf (stAt 1), globals := 0, closure := [], defaults := .none, kwdefaults := .none, doc := .none, pyModule := .none, annotations := none, code := .none, closureTuple := .none, builtins := 0 }, (List.toArray [])⟩
noncomputable def o20v11 (P : Params) : Obj := ⟨.type "code", none, .fields (List.toArray [.str (Str.ofString "give_names") 189, .str (Str.ofString "give_names") 190, .str (Str.ofString "/claim/cut.py") 191, .int (2) 0, .int (2) 0, .int (0) 0, .int (0) 0, .int (3) 0, .ref 15, .bool true, .int (181) 0, .ref 16, .none, .ref 17, .ref 18, .ref 19, .int (196) 0, .int (2) 0, .str (Str.ofString "/claim/cut.py") 197]), (List.toArray [])⟩
noncomputable def o21v12 (P : Params) : Obj := ⟨.type "function", none, .func { name := (Str.ofString "give_names"), qualname := (Str.ofString "give_names"), params := parOf (stAt 1), body := .stmts (bodOf (stAt 1)), scope := scoOf (stAt 1), globals := 3, closure := [], defaults := .none, kwdefaults := .none, doc := .none, pyModule := .str (Str.ofString "snobol.matchcore") 187, annotations := none, code := .ref 20, closureTuple := .none, builtins := 0 }, (List.toArray [])⟩
noncomputable def o22v13 (P : Params) : Obj := ⟨.type "tuple", none, .seq (List.toArray []) 0, (List.toArray [])⟩
noncomputable def o23v14 (P : Params) : Obj := ⟨.none, none, .fields (List.toArray []), (List.toArray [])⟩
noncomputable def o24v15 (P : Params) : Obj := ⟨.type "tuple", none, .seq (List.toArray [.str (Str.ofString "subject") 202, .str (Str.ofString "found") 203]) 0, (List.toArray [])⟩
noncomputable def o25v16 (P : Params) : Obj := ⟨.type "tuple", none, .seq (List.toArray []) 0, (List.toArray [])⟩
noncomputable def o26v17 (P : Params) : Obj := ⟨.none, none, .func { name := (Str.ofString "three_pieces"), qualname := (Str.ofString "three_pieces"), params := parOf (stAt 2), body := .stmts (bodOf (stAt 2)), scope := scoOf (stAt 2), globals := 0, closure := [], defaults := .none, kwdefaults := .none, doc := .none, pyModule := .none, annotations := none, code := .none, closureTuple := .none, builtins := 0 }, (List.toArray [])⟩
noncomputable def o27v18 (P : Params) : Obj := ⟨.type "code", none, .fields (List.toArray [.str (Str.ofString "three_pieces") 199, .str (Str.ofString "three_pieces") 200, .str (Str.ofString "/claim/cut.py") 201, .int (5) 0, .int (2) 0, .int (0) 0, .int (0) 0, .int (3) 0, .ref 22, .bool true, .int (181) 0, .ref 23, .none, .ref 24, .ref 25, .ref 26, .int (204) 0, .int (5) 0, .str (Str.ofString "/claim/cut.py") 205]), (List.toArray [])⟩
noncomputable def o28v19 (P : Params) : Obj := ⟨.type "function", none, .func { name := (Str.ofString "three_pieces"), qualname := (Str.ofString "three_pieces"), params := parOf (stAt 2), body := .stmts (bodOf (stAt 2)), scope := scoOf (stAt 2), globals := 3, closure := [], defaults := .none, kwdefaults := .none, doc := .none, pyModule := .str (Str.ofString "snobol.matchcore") 187, annotations := none, code := .ref 27, closureTuple := .none, builtins := 0 }, (List.toArray [])⟩
noncomputable def o29v20 (P : Params) : Obj := ⟨.type "tuple", none, .seq (List.toArray []) 0, (List.toArray [])⟩
noncomputable def o30v21 (P : Params) : Obj := ⟨.none, none, .fields (List.toArray []), (List.toArray [])⟩
noncomputable def o31v22 (P : Params) : Obj := ⟨.type "tuple", none, .seq (List.toArray [.str (Str.ofString "subject") 210, .str (Str.ofString "found") 211, .str (Str.ofString "text") 212, .str (Str.ofString "ahead") 213, .str (Str.ofString "met") 214, .str (Str.ofString "behind") 215]) 0, (List.toArray [])⟩
noncomputable def o32v23 (P : Params) : Obj := ⟨.type "tuple", none, .seq (List.toArray []) 0, (List.toArray [])⟩
noncomputable def o33v24 (P : Params) : Obj := ⟨.none, none, .func { name := (Str.ofString "spliced"), qualname := (Str.ofString "spliced"), params := parOf (stAt 3), body := .stmts (bodOf (stAt 3)), scope := scoOf (stAt 3), globals := 0, closure := [], defaults := .none, kwdefaults := .none, doc := .none, pyModule := .none, annotations := none, code := .none, closureTuple := .none, builtins := 0 }, (List.toArray [])⟩
noncomputable def o34v25 (P : Params) : Obj := ⟨.type "code", none, .fields (List.toArray [.str (Str.ofString "spliced") 207, .str (Str.ofString "spliced") 208, .str (Str.ofString "/claim/cut.py") 209, .int (7) 0, .int (3) 0, .int (0) 0, .int (0) 0, .int (3) 0, .ref 29, .bool true, .int (181) 0, .ref 30, .none, .ref 31, .ref 32, .ref 33, .int (216) 0, .int (7) 0, .str (Str.ofString "/claim/cut.py") 217]), (List.toArray [])⟩
noncomputable def o35v26 (P : Params) : Obj := ⟨.type "function", none, .func { name := (Str.ofString "spliced"), qualname := (Str.ofString "spliced"), params := parOf (stAt 3), body := .stmts (bodOf (stAt 3)), scope := scoOf (stAt 3), globals := 3, closure := [], defaults := .none, kwdefaults := .none, doc := .none, pyModule := .str (Str.ofString "snobol.matchcore") 187, annotations := none, code := .ref 34, closureTuple := .none, builtins := 0 }, (List.toArray [])⟩
noncomputable def o36v27 (P : Params) : Obj := ⟨.type "tuple", none, .seq (List.toArray []) 0, (List.toArray [])⟩
noncomputable def o37v28 (P : Params) : Obj := ⟨.none, none, .fields (List.toArray []), (List.toArray [])⟩
noncomputable def o38v29 (P : Params) : Obj := ⟨.type "tuple", none, .seq (List.toArray [.str (Str.ofString "matcher") 222, .str (Str.ofString "node") 223, .str (Str.ofString "subject") 224, .str (Str.ofString "is_anchored") 225, .str (Str.ofString "host") 226, .str (Str.ofString "text_of") 227, .str (Str.ofString "found") 228, .str (Str.ofString "text") 229]) 0, (List.toArray [])⟩
noncomputable def o39v30 (P : Params) : Obj := ⟨.type "tuple", none, .seq (List.toArray []) 0, (List.toArray [])⟩
noncomputable def o40v31 (P : Params) : Obj := ⟨.none, none, .func { name := (Str.ofString "replace_once"), qualname := (Str.ofString "replace_once"), params := parOf (stAt 4), body := .stmts (bodOf (stAt 4)), scope := scoOf (stAt 4), globals := 0, closure := [], defaults := .none, kwdefaults := .none, doc := .none, pyModule := .none, annotations := none, code := .none, closureTuple := .none, builtins := 0 }, (List.toArray [])⟩
noncomputable def o41v32 (P : Params) : Obj := ⟨.type "code", none, .fields (List.toArray [.str (Str.ofString "replace_once") 219, .str (Str.ofString "replace_once") 220, .str (Str.ofString "/claim/cut.py") 221, .int (10) 0, .int (6) 0, .int (0) 0, .int (0) 0, .int (3) 0, .ref 36, .bool true, .int (181) 0, .ref 37, .none, .ref 38, .ref 39, .ref 40, .int (230) 0, .int (10) 0, .str (Str.ofString "/claim/cut.py") 231]), (List.toArray [])⟩
noncomputable def o42v33 (P : Params) : Obj := ⟨.type "function", none, .func { name := (Str.ofString "replace_once"), qualname := (Str.ofString "replace_once"), params := parOf (stAt 4), body := .stmts (bodOf (stAt 4)), scope := scoOf (stAt 4), globals := 3, closure := [], defaults := .none, kwdefaults := .none, doc := .none, pyModule := .str (Str.ofString "snobol.matchcore") 187, annotations := none, code := .ref 41, closureTuple := .none, builtins := 0 }, (List.toArray [])⟩
noncomputable def T1 (P : Params) : BT := (.node (boot_o_0 P) (.node (boot_o_1 P) (.node (o3v4 P) (.node (boot_o_7 P) (.node (o15v6 P) (.node (o31v22 P) .nil .nil) .nil) (.node (o23v14 P) (.node (o39v30 P) .nil .nil) .nil)) (.node (o11v0 P) (.node (o19v10 P) (.node (o35v26 P) .nil .nil) .nil) (.node (o27v18 P) .nil .nil))) (.node (boot_o_5 P) (.node (boot_o_9 P) (.node (o17v8 P) (.node (o33v24 P) .nil .nil) .nil) (.node (o25v16 P) (.node (o41v32 P) .nil .nil) .nil)) (.node (o13v2 P) (.node (o21v12 P) (.node (o37v28 P) .nil .nil) .nil) (.node (o29v20 P) .nil .nil)))) (.node (boot_o_2 P) (.node (boot_o_4 P) (.node (boot_o_8 P) (.node (o16v7 P) (.node (o32v23 P) .nil .nil) .nil) (.node (o24v15 P) (.node (o40v31 P) .nil .nil) .nil)) (.node (o12v5 P) (.node (o20v11 P) (.node (o36v27 P) .nil .nil) .nil) (.node (o28v19 P) .nil .nil))) (.node (boot_o_6 P) (.node (boot_o_10 P) (.node (o18v9 P) (.node (o34v25 P) .nil .nil) .nil) (.node (o26v17 P) (.node (o42v33 P) .nil .nil) .nil)) (.node (o14v3 P) (.node (o22v13 P) (.node (o38v29 P) .nil .nil) .nil) (.node (o30v21 P) .nil .nil)))))
noncomputable def o2v34 (P : Params) : Obj := ⟨.none, none, .dict (List.toArray [⟨PyData.keyHash P (Str.ofString "type.__subclasses__.Exception.0"), .str (Str.ofString "type.__subclasses__.Exception.0") 265, .int (62) 0⟩, ⟨PyData.keyHash P (Str.ofString "type.__subclasses__.Exception.n"), .str (Str.ofString "type.__subclasses__.Exception.n") 266, .int (1) 0⟩]) 2, (List.toArray [])⟩
noncomputable def o3v35 (P : Params) : Obj := ⟨.type "dict", none, .dict (List.toArray [⟨PyData.keyHash P (Str.ofString "__name__"), .str (Str.ofString "__name__") 165, .str (Str.ofString "snobol.values") 233⟩, ⟨PyData.keyHash P (Str.ofString "__doc__"), .str (Str.ofString "__doc__") 166, .none⟩, ⟨PyData.keyHash P (Str.ofString "__package__"), .str (Str.ofString "__package__") 167, .none⟩, ⟨PyData.keyHash P (Str.ofString "__loader__"), .str (Str.ofString "__loader__") 168, .builtin "__main__.__loader__#opaque"⟩, ⟨PyData.keyHash P (Str.ofString "__spec__"), .str (Str.ofString "__spec__") 169, .none⟩, ⟨PyData.keyHash P (Str.ofString "__annotations__"), .str (Str.ofString "__annotations__") 170, .ref 6⟩, ⟨PyData.keyHash P (Str.ofString "__builtins__"), .str (Str.ofString "__builtins__") 171, .ref 4⟩, ⟨PyData.keyHash P (Str.ofString "__file__"), .str (Str.ofString "__file__") 173, .str (Str.ofString "/claim/cut.py") 172⟩, ⟨PyData.keyHash P (Str.ofString "__cached__"), .str (Str.ofString "__cached__") 174, .none⟩, ⟨PyData.keyHash P (Str.ofString "give_names"), .str (Str.ofString "give_names") 198, .ref 21⟩, ⟨PyData.keyHash P (Str.ofString "three_pieces"), .str (Str.ofString "three_pieces") 206, .ref 28⟩, ⟨PyData.keyHash P (Str.ofString "spliced"), .str (Str.ofString "spliced") 218, .ref 35⟩, ⟨PyData.keyHash P (Str.ofString "replace_once"), .str (Str.ofString "replace_once") 232, .ref 42⟩, ⟨PyData.keyHash P (Str.ofString "SnobolError"), .str (Str.ofString "SnobolError") 268, .ref 62⟩]) 14, (List.toArray [])⟩
noncomputable def o12v36 (P : Params) : Obj := ⟨.none, none, .fields (List.toArray [.int (2) 0, .int (0) 0, .ref 20, .int (5) 0, .int (0) 0, .ref 27, .int (7) 0, .int (0) 0, .ref 34, .int (10) 0, .int (0) 0, .ref 41, .int (18) 0, .int (0) 0, .ref 49]), (List.toArray [])⟩
noncomputable def o43v37 (P : Params) : Obj := ⟨.type "tuple", none, .seq (List.toArray [.type "Exception"]) 0, (List.toArray [])⟩
noncomputable def o44v38 (P : Params) : Obj := ⟨.type "builtin_function_or_method", none, .fields (List.toArray [.builtin "type.__prepare__", .type "type"]), (List.toArray [])⟩
noncomputable def o45v39 (P : Params) : Obj := ⟨.type "dict", none, .dict (List.toArray [⟨PyData.keyHash P (Str.ofString "__module__"), .str (Str.ofString "__module__") 242, .str (Str.ofString "snobol.values") 233⟩, ⟨PyData.keyHash P (Str.ofString "__qualname__"), .str (Str.ofString "__qualname__") 244, .str (Str.ofString "SnobolError") 243⟩, ⟨PyData.keyHash P (Str.ofString "__firstlineno__"), .str (Str.ofString "__firstlineno__") 246, .int (18) 245⟩, ⟨PyData.keyHash P (Str.ofString "__init__"), .str (Str.ofString "__init__") 257, .ref 59⟩, ⟨PyData.keyHash P (Str.ofString "__static_attributes__"), .str (Str.ofString "__static_attributes__") 260, .ref 60⟩, ⟨PyData.keyHash P (Str.ofString "__classcell__"), .str (Str.ofString "__classcell__") 261, .ref 46⟩]) 6, (List.toArray [])⟩
noncomputable def o46v40 (P : Params) : Obj := ⟨.type "cell", none, .cell (some (.ref 62)), (List.toArray [])⟩
noncomputable def o47v41 (P : Params) : Obj := ⟨.type "tuple", none, .seq (List.toArray []) 0, (List.toArray [])⟩
noncomputable def o48v42 (P : Params) : Obj := ⟨.none, none, .fields (List.toArray [.int (20) 0, .int (4) 0, .ref 58]), (List.toArray [])⟩
noncomputable def o49v43 (P : Params) : Obj := ⟨.type "code", none, .fields (List.toArray [.str (Str.ofString "SnobolError") 237, .str (Str.ofString "SnobolError") 238, .str (Str.ofString "/claim/cut.py") 239, .int (18) 0, .int (0) 0, .int (0) 0, .int (0) 0, .int (0) 0, .ref 47, .bool false, .int (181) 0, .ref 48, .none, .none, .none, .none, .int (240) 0, .int (18) 0, .str (Str.ofString "/claim/cut.py") 241]), (List.toArray [])⟩
noncomputable def o50v44 (P : Params) : Obj := ⟨.type "frame", none, .plain, (List.toArray [some (.ref 49), some (.ref 3), some (.ref 45), none, some (.str (Str.ofString "snobol.values") 233), none, some (.ref 0)])⟩
noncomputable def o51v45 (P : Params) : Obj := ⟨.type "tuple", none, .seq (List.toArray [.str (Str.ofString "") 247]) 0, (List.toArray [])⟩
noncomputable def o52v46 (P : Params) : Obj := ⟨.type "tuple", none, .seq (List.toArray [.ref 46]) 0, (List.toArray [])⟩
noncomputable def o53v47 (P : Params) : Obj := ⟨.type "tuple", none, .seq (List.toArray [.str (Str.ofString "__class__") 251]) 0, (List.toArray [])⟩
noncomputable def o54v48 (P : Params) : Obj := ⟨.none, none, .fields (List.toArray []), (List.toArray [])⟩
noncomputable def o55v49 (P : Params) : Obj := ⟨.type "tuple", none, .seq (List.toArray [.str (Str.ofString "self") 252, .str (Str.ofString "number") 253, .str (Str.ofString "told") 254]) 0, (List.toArray [])⟩
noncomputable def o56v50 (P : Params) : Obj := ⟨.type "tuple", none, .seq (List.toArray []) 0, (List.toArray [])⟩
noncomputable def o57v51 (P : Params) : Obj := ⟨.none, none, .func { name := (Str.ofString "__init__"), qualname := (Str.ofString "SnobolError.__init__"), params := parOf (methAt 6 0), body := .stmts (bodOf (methAt 6 0)), scope := scoOf (methAt 6 0), globals := 0, closure := [], defaults := .none, kwdefaults := .none, doc := .none, pyModule := .none, annotations := none, code := .none, closureTuple := .none, builtins := 0 }, (List.toArray [])⟩
noncomputable def o58v52 (P : Params) : Obj := ⟨.type "code", none, .fields (List.toArray [.str (Str.ofString "__init__") 248, .str (Str.ofString "SnobolError.__init__") 249, .str (Str.ofString "/claim/cut.py") 250, .int (20) 0, .int (3) 0, .int (0) 0, .int (0) 0, .int (3) 0, .ref 53, .bool true, .int (181) 0, .ref 54, .none, .ref 55, .ref 56, .ref 57, .int (255) 0, .int (20) 0, .str (Str.ofString "/claim/cut.py") 256]), (List.toArray [])⟩
noncomputable def o59v53 (P : Params) : Obj := ⟨.type "function", none, .func { name := (Str.ofString "__init__"), qualname := (Str.ofString "SnobolError.__init__"), params := parOf (methAt 6 0), body := .stmts (bodOf (methAt 6 0)), scope := scoOf (methAt 6 0), globals := 3, closure := [((Str.ofString "__class__"), 46)], defaults := .ref 51, kwdefaults := .none, doc := .none, pyModule := .str (Str.ofString "snobol.values") 233, annotations := none, code := .ref 58, closureTuple := .ref 52, builtins := 0 }, (List.toArray [])⟩
noncomputable def o60v54 (P : Params) : Obj := ⟨.type "tuple", none, .seq (List.toArray [.str (Str.ofString "number") 258, .str (Str.ofString "told") 259]) 0, (List.toArray [])⟩
noncomputable def o61v55 (P : Params) : Obj := ⟨.type "dict", none, .dict (List.toArray [⟨PyData.keyHash P (Str.ofString "__module__"), .str (Str.ofString "__module__") 242, .str (Str.ofString "snobol.values") 233⟩, ⟨PyData.keyHash P (Str.ofString "__firstlineno__"), .str (Str.ofString "__firstlineno__") 246, .int (18) 245⟩, ⟨PyData.keyHash P (Str.ofString "__init__"), .str (Str.ofString "__init__") 257, .ref 59⟩, ⟨PyData.keyHash P (Str.ofString "__static_attributes__"), .str (Str.ofString "__static_attributes__") 260, .ref 60⟩, ⟨PyData.keyHash P (Str.ofString "__weakref__"), .str (Str.ofString "__weakref__") 263, .ref 63⟩, ⟨PyData.keyHash P (Str.ofString "__doc__"), .str (Str.ofString "__doc__") 264, .none⟩]) 4, (List.toArray [])⟩
noncomputable def o62v56 (P : Params) : Obj := ⟨.type "type", none, .cls { name := (Str.ofString "SnobolError"), bases := [.type "Exception"], mro := [.ref 62, .type "Exception", .type "BaseException", .type "object"], ns := 61, qualname := (Str.ofString "SnobolError"), hasDict := true, slotNames := [], subclasses := [], abstract := false, collection := none, hasDel := false }, (List.toArray [some (.ref 43), none, some (.str (Str.ofString "SnobolError") 235), some (.str (Str.ofString "SnobolError") 243), some (.builtin "Exception.__new__"), some (.bool true)])⟩
noncomputable def o63v57 (P : Params) : Obj := ⟨.type "getset_descriptor", none, .fields (List.toArray [.str (Str.ofString "__weakref__") 262, .ref 62, .builtin "ExceptionGroup.__weakref__", .none]), (List.toArray [])⟩
noncomputable def o64v58 (P : Params) : Obj := ⟨.type "super", none, .fields (List.toArray [.ref 62, .ref 62, .ref 62]), (List.toArray [])⟩
noncomputable def o65v59 (P : Params) : Obj := ⟨.type "builtin_function_or_method", none, .fields (List.toArray [.builtin "object.__init_subclass__", .ref 62]), (List.toArray [])⟩
noncomputable def T2 (P : Params) : BT := (.node (boot_o_0 P) (.node (boot_o_1 P) (.node (o3v35 P) (.node (boot_o_7 P) (.node (o15v6 P) (.node (o31v22 P) (.node (o63v57 P) .nil .nil) .nil) (.node (o47v41 P) .nil .nil)) (.node (o23v14 P) (.node (o39v30 P) .nil .nil) (.node (o55v49 P) .nil .nil))) (.node (o11v0 P) (.node (o19v10 P) (.node (o35v26 P) .nil .nil) (.node (o51v45 P) .nil .nil)) (.node (o27v18 P) (.node (o43v37 P) .nil .nil) (.node (o59v53 P) .nil .nil)))) (.node (boot_o_5 P) (.node (boot_o_9 P) (.node (o17v8 P) (.node (o33v24 P) (.node (o65v59 P) .nil .nil) .nil) (.node (o49v43 P) .nil .nil)) (.node (o25v16 P) (.node (o41v32 P) .nil .nil) (.node (o57v51 P) .nil .nil))) (.node (o13v2 P) (.node (o21v12 P) (.node (o37v28 P) .nil .nil) (.node (o53v47 P) .nil .nil)) (.node (o29v20 P) (.node (o45v39 P) .nil .nil) (.node (o61v55 P) .nil .nil))))) (.node (o2v34 P) (.node (boot_o_4 P) (.node (boot_o_8 P) (.node (o16v7 P) (.node (o32v23 P) (.node (o64v58 P) .nil .nil) .nil) (.node (o48v42 P) .nil .nil)) (.node (o24v15 P) (.node (o40v31 P) .nil .nil) (.node (o56v50 P) .nil .nil))) (.node (o12v36 P) (.node (o20v11 P) (.node (o36v27 P) .nil .nil) (.node (o52v46 P) .nil .nil)) (.node (o28v19 P) (.node (o44v38 P) .nil .nil) (.node (o60v54 P) .nil .nil)))) (.node (boot_o_6 P) (.node (boot_o_10 P) (.node (o18v9 P) (.node (o34v25 P) .nil .nil) (.node (o50v44 P) .nil .nil)) (.node (o26v17 P) (.node (o42v33 P) .nil .nil) (.node (o58v52 P) .nil .nil))) (.node (o14v3 P) (.node (o22v13 P) (.node (o38v29 P) .nil .nil) (.node (o54v48 P) .nil .nil)) (.node (o30v21 P) (.node (o46v40 P) .nil .nil) (.node (o62v56 P) .nil .nil))))))
noncomputable def o3v60 (P : Params) : Obj := ⟨.type "dict", none, .dict (List.toArray [⟨PyData.keyHash P (Str.ofString "__name__"), .str (Str.ofString "__name__") 165, .str (Str.ofString "snobol.values") 233⟩, ⟨PyData.keyHash P (Str.ofString "__doc__"), .str (Str.ofString "__doc__") 166, .none⟩, ⟨PyData.keyHash P (Str.ofString "__package__"), .str (Str.ofString "__package__") 167, .none⟩, ⟨PyData.keyHash P (Str.ofString "__loader__"), .str (Str.ofString "__loader__") 168, .builtin "__main__.__loader__#opaque"⟩, ⟨PyData.keyHash P (Str.ofString "__spec__"), .str (Str.ofString "__spec__") 169, .none⟩, ⟨PyData.keyHash P (Str.ofString "__annotations__"), .str (Str.ofString "__annotations__") 170, .ref 6⟩, ⟨PyData.keyHash P (Str.ofString "__builtins__"), .str (Str.ofString "__builtins__") 171, .ref 4⟩, ⟨PyData.keyHash P (Str.ofString "__file__"), .str (Str.ofString "__file__") 173, .str (Str.ofString "/claim/cut.py") 172⟩, ⟨PyData.keyHash P (Str.ofString "__cached__"), .str (Str.ofString "__cached__") 174, .none⟩, ⟨PyData.keyHash P (Str.ofString "give_names"), .str (Str.ofString "give_names") 198, .ref 21⟩, ⟨PyData.keyHash P (Str.ofString "three_pieces"), .str (Str.ofString "three_pieces") 206, .ref 28⟩, ⟨PyData.keyHash P (Str.ofString "spliced"), .str (Str.ofString "spliced") 218, .ref 35⟩, ⟨PyData.keyHash P (Str.ofString "replace_once"), .str (Str.ofString "replace_once") 232, .ref 42⟩, ⟨PyData.keyHash P (Str.ofString "SnobolError"), .str (Str.ofString "SnobolError") 268, .ref 62⟩, ⟨PyData.keyHash P (Str.ofString "Failure"), .str (Str.ofString "Failure") 288, .ref 75⟩]) 15, (List.toArray [])⟩
noncomputable def o12v61 (P : Params) : Obj := ⟨.none, none, .fields (List.toArray [.int (2) 0, .int (0) 0, .ref 20, .int (5) 0, .int (0) 0, .ref 27, .int (7) 0, .int (0) 0, .ref 34, .int (10) 0, .int (0) 0, .ref 41, .int (18) 0, .int (0) 0, .ref 49, .int (24) 0, .int (0) 0, .ref 71]), (List.toArray [])⟩
noncomputable def o66v62 (P : Params) : Obj := ⟨.type "tuple", none, .seq (List.toArray []) 0, (List.toArray [])⟩
noncomputable def o67v63 (P : Params) : Obj := ⟨.type "builtin_function_or_method", none, .fields (List.toArray [.builtin "type.__prepare__", .type "type"]), (List.toArray [])⟩
noncomputable def o68v64 (P : Params) : Obj := ⟨.type "dict", none, .dict (List.toArray [⟨PyData.keyHash P (Str.ofString "__module__"), .str (Str.ofString "__module__") 276, .str (Str.ofString "snobol.values") 233⟩, ⟨PyData.keyHash P (Str.ofString "__qualname__"), .str (Str.ofString "__qualname__") 278, .str (Str.ofString "Failure") 277⟩, ⟨PyData.keyHash P (Str.ofString "__firstlineno__"), .str (Str.ofString "__firstlineno__") 280, .int (24) 279⟩, ⟨PyData.keyHash P (Str.ofString "__static_attributes__"), .str (Str.ofString "__static_attributes__") 281, .ref 73⟩]) 4, (List.toArray [])⟩
noncomputable def o69v65 (P : Params) : Obj := ⟨.type "tuple", none, .seq (List.toArray []) 0, (List.toArray [])⟩
noncomputable def o70v66 (P : Params) : Obj := ⟨.none, none, .fields (List.toArray []), (List.toArray [])⟩
noncomputable def o71v67 (P : Params) : Obj := ⟨.type "code", none, .fields (List.toArray [.str (Str.ofString "Failure") 271, .str (Str.ofString "Failure") 272, .str (Str.ofString "/claim/cut.py") 273, .int (24) 0, .int (0) 0, .int (0) 0, .int (0) 0, .int (0) 0, .ref 69, .bool false, .int (181) 0, .ref 70, .none, .none, .none, .none, .int (274) 0, .int (24) 0, .str (Str.ofString "/claim/cut.py") 275]), (List.toArray [])⟩
noncomputable def o72v68 (P : Params) : Obj := ⟨.type "frame", none, .plain, (List.toArray [some (.ref 71), some (.ref 3), some (.ref 68), none, some (.str (Str.ofString "snobol.values") 233), none, some (.ref 0)])⟩
noncomputable def o73v69 (P : Params) : Obj := ⟨.type "tuple", none, .seq (List.toArray []) 0, (List.toArray [])⟩
noncomputable def o74v70 (P : Params) : Obj := ⟨.type "dict", none, .dict (List.toArray [⟨PyData.keyHash P (Str.ofString "__module__"), .str (Str.ofString "__module__") 276, .str (Str.ofString "snobol.values") 233⟩, ⟨PyData.keyHash P (Str.ofString "__firstlineno__"), .str (Str.ofString "__firstlineno__") 280, .int (24) 279⟩, ⟨PyData.keyHash P (Str.ofString "__static_attributes__"), .str (Str.ofString "__static_attributes__") 281, .ref 73⟩, ⟨PyData.keyHash P (Str.ofString "__dict__"), .str (Str.ofString "__dict__") 283, .ref 76⟩, ⟨PyData.keyHash P (Str.ofString "__weakref__"), .str (Str.ofString "__weakref__") 285, .ref 77⟩, ⟨PyData.keyHash P (Str.ofString "__doc__"), .str (Str.ofString "__doc__") 286, .none⟩]) 4, (List.toArray [])⟩
noncomputable def o75v71 (P : Params) : Obj := ⟨.type "type", none, .cls { name := (Str.ofString "Failure"), bases := [.type "object"], mro := [.ref 75, .type "object"], ns := 74, qualname := (Str.ofString "Failure"), hasDict := true, slotNames := [], subclasses := [], abstract := false, collection := none, hasDel := false }, (List.toArray [none, none, some (.str (Str.ofString "Failure") 269), some (.str (Str.ofString "Failure") 277), some (.builtin "object.__new__"), some (.bool true)])⟩
noncomputable def o76v72 (P : Params) : Obj := ⟨.type "getset_descriptor", none, .fields (List.toArray [.str (Str.ofString "__dict__") 282, .ref 75, .builtin "function.__dict__", .builtin "function.__dict__#set"]), (List.toArray [])⟩
noncomputable def o77v73 (P : Params) : Obj := ⟨.type "getset_descriptor", none, .fields (List.toArray [.str (Str.ofString "__weakref__") 284, .ref 75, .builtin "ExceptionGroup.__weakref__", .none]), (List.toArray [])⟩
noncomputable def o78v74 (P : Params) : Obj := ⟨.type "super", none, .fields (List.toArray [.ref 75, .ref 75, .ref 75]), (List.toArray [])⟩
noncomputable def o79v75 (P : Params) : Obj := ⟨.type "builtin_function_or_method", none, .fields (List.toArray [.builtin "object.__init_subclass__", .ref 75]), (List.toArray [])⟩
noncomputable def T3 (P : Params) : BT := (.node (boot_o_0 P) (.node (boot_o_1 P) (.node (o3v60 P) (.node (boot_o_7 P) (.node (o15v6 P) (.node (o31v22 P) (.node (o63v57 P) .nil .nil) .nil) (.node (o47v41 P) (.node (o79v75 P) .nil .nil) .nil)) (.node (o23v14 P) (.node (o39v30 P) (.node (o71v67 P) .nil .nil) .nil) (.node (o55v49 P) .nil .nil))) (.node (o11v0 P) (.node (o19v10 P) (.node (o35v26 P) (.node (o67v63 P) .nil .nil) .nil) (.node (o51v45 P) .nil .nil)) (.node (o27v18 P) (.node (o43v37 P) (.node (o75v71 P) .nil .nil) .nil) (.node (o59v53 P) .nil .nil)))) (.node (boot_o_5 P) (.node (boot_o_9 P) (.node (o17v8 P) (.node (o33v24 P) (.node (o65v59 P) .nil .nil) .nil) (.node (o49v43 P) .nil .nil)) (.node (o25v16 P) (.node (o41v32 P) (.node (o73v69 P) .nil .nil) .nil) (.node (o57v51 P) .nil .nil))) (.node (o13v2 P) (.node (o21v12 P) (.node (o37v28 P) (.node (o69v65 P) .nil .nil) .nil) (.node (o53v47 P) .nil .nil)) (.node (o29v20 P) (.node (o45v39 P) (.node (o77v73 P) .nil .nil) .nil) (.node (o61v55 P) .nil .nil))))) (.node (o2v34 P) (.node (boot_o_4 P) (.node (boot_o_8 P) (.node (o16v7 P) (.node (o32v23 P) (.node (o64v58 P) .nil .nil) .nil) (.node (o48v42 P) .nil .nil)) (.node (o24v15 P) (.node (o40v31 P) (.node (o72v68 P) .nil .nil) .nil) (.node (o56v50 P) .nil .nil))) (.node (o12v61 P) (.node (o20v11 P) (.node (o36v27 P) (.node (o68v64 P) .nil .nil) .nil) (.node (o52v46 P) .nil .nil)) (.node (o28v19 P) (.node (o44v38 P) (.node (o76v72 P) .nil .nil) .nil) (.node (o60v54 P) .nil .nil)))) (.node (boot_o_6 P) (.node (boot_o_10 P) (.node (o18v9 P) (.node (o34v25 P) (.node (o66v62 P) .nil .nil) .nil) (.node (o50v44 P) .nil .nil)) (.node (o26v17 P) (.node (o42v33 P) (.node (o74v70 P) .nil .nil) .nil) (.node (o58v52 P) .nil .nil))) (.node (o14v3 P) (.node (o22v13 P) (.node (o38v29 P) (.node (o70v66 P) .nil .nil) .nil) (.node (o54v48 P) .nil .nil)) (.node (o30v21 P) (.node (o46v40 P) (.node (o78v74 P) .nil .nil) .nil) (.node (o62v56 P) .nil .nil))))))
noncomputable def o3v76 (P : Params) : Obj := ⟨.type "dict", none, .dict (List.toArray [⟨PyData.keyHash P (Str.ofString "__name__"), .str (Str.ofString "__name__") 165, .str (Str.ofString "snobol.values") 233⟩, ⟨PyData.keyHash P (Str.ofString "__doc__"), .str (Str.ofString "__doc__") 166, .none⟩, ⟨PyData.keyHash P (Str.ofString "__package__"), .str (Str.ofString "__package__") 167, .none⟩, ⟨PyData.keyHash P (Str.ofString "__loader__"), .str (Str.ofString "__loader__") 168, .builtin "__main__.__loader__#opaque"⟩, ⟨PyData.keyHash P (Str.ofString "__spec__"), .str (Str.ofString "__spec__") 169, .none⟩, ⟨PyData.keyHash P (Str.ofString "__annotations__"), .str (Str.ofString "__annotations__") 170, .ref 6⟩, ⟨PyData.keyHash P (Str.ofString "__builtins__"), .str (Str.ofString "__builtins__") 171, .ref 4⟩, ⟨PyData.keyHash P (Str.ofString "__file__"), .str (Str.ofString "__file__") 173, .str (Str.ofString "/claim/cut.py") 172⟩, ⟨PyData.keyHash P (Str.ofString "__cached__"), .str (Str.ofString "__cached__") 174, .none⟩, ⟨PyData.keyHash P (Str.ofString "give_names"), .str (Str.ofString "give_names") 198, .ref 21⟩, ⟨PyData.keyHash P (Str.ofString "three_pieces"), .str (Str.ofString "three_pieces") 206, .ref 28⟩, ⟨PyData.keyHash P (Str.ofString "spliced"), .str (Str.ofString "spliced") 218, .ref 35⟩, ⟨PyData.keyHash P (Str.ofString "replace_once"), .str (Str.ofString "replace_once") 232, .ref 42⟩, ⟨PyData.keyHash P (Str.ofString "SnobolError"), .str (Str.ofString "SnobolError") 268, .ref 62⟩, ⟨PyData.keyHash P (Str.ofString "Failure"), .str (Str.ofString "Failure") 288, .ref 75⟩, ⟨PyData.keyHash P (Str.ofString "Pattern"), .str (Str.ofString "Pattern") 317, .ref 96⟩]) 16, (List.toArray [])⟩
noncomputable def o12v77 (P : Params) : Obj := ⟨.none, none, .fields (List.toArray [.int (2) 0, .int (0) 0, .ref 20, .int (5) 0, .int (0) 0, .ref 27, .int (7) 0, .int (0) 0, .ref 34, .int (10) 0, .int (0) 0, .ref 41, .int (18) 0, .int (0) 0, .ref 49, .int (24) 0, .int (0) 0, .ref 71, .int (26) 0, .int (0) 0, .ref 85]), (List.toArray [])⟩
noncomputable def o80v78 (P : Params) : Obj := ⟨.type "tuple", none, .seq (List.toArray []) 0, (List.toArray [])⟩
noncomputable def o81v79 (P : Params) : Obj := ⟨.type "builtin_function_or_method", none, .fields (List.toArray [.builtin "type.__prepare__", .type "type"]), (List.toArray [])⟩
noncomputable def o82v80 (P : Params) : Obj := ⟨.type "dict", none, .dict (List.toArray [⟨PyData.keyHash P (Str.ofString "__module__"), .str (Str.ofString "__module__") 296, .str (Str.ofString "snobol.values") 233⟩, ⟨PyData.keyHash P (Str.ofString "__qualname__"), .str (Str.ofString "__qualname__") 298, .str (Str.ofString "Pattern") 297⟩, ⟨PyData.keyHash P (Str.ofString "__firstlineno__"), .str (Str.ofString "__firstlineno__") 300, .int (26) 299⟩, ⟨PyData.keyHash P (Str.ofString "__init__"), .str (Str.ofString "__init__") 308, .ref 93⟩, ⟨PyData.keyHash P (Str.ofString "__static_attributes__"), .str (Str.ofString "__static_attributes__") 310, .ref 94⟩]) 5, (List.toArray [])⟩
noncomputable def o83v81 (P : Params) : Obj := ⟨.type "tuple", none, .seq (List.toArray []) 0, (List.toArray [])⟩
noncomputable def o84v82 (P : Params) : Obj := ⟨.none, none, .fields (List.toArray [.int (28) 0, .int (4) 0, .ref 92]), (List.toArray [])⟩
noncomputable def o85v83 (P : Params) : Obj := ⟨.type "code", none, .fields (List.toArray [.str (Str.ofString "Pattern") 291, .str (Str.ofString "Pattern") 292, .str (Str.ofString "/claim/cut.py") 293, .int (26) 0, .int (0) 0, .int (0) 0, .int (0) 0, .int (0) 0, .ref 83, .bool false, .int (181) 0, .ref 84, .none, .none, .none, .none, .int (294) 0, .int (26) 0, .str (Str.ofString "/claim/cut.py") 295]), (List.toArray [])⟩
noncomputable def o86v84 (P : Params) : Obj := ⟨.type "frame", none, .plain, (List.toArray [some (.ref 85), some (.ref 3), some (.ref 82), none, some (.str (Str.ofString "snobol.values") 233), none, some (.ref 0)])⟩
noncomputable def o87v85 (P : Params) : Obj := ⟨.type "tuple", none, .seq (List.toArray []) 0, (List.toArray [])⟩
noncomputable def o88v86 (P : Params) : Obj := ⟨.none, none, .fields (List.toArray []), (List.toArray [])⟩
noncomputable def o89v87 (P : Params) : Obj := ⟨.type "tuple", none, .seq (List.toArray [.str (Str.ofString "self") 304, .str (Str.ofString "node") 305]) 0, (List.toArray [])⟩
noncomputable def o90v88 (P : Params) : Obj := ⟨.type "tuple", none, .seq (List.toArray []) 0, (List.toArray [])⟩
noncomputable def o91v89 (P : Params) : Obj := ⟨.none, none, .func { name := (Str.ofString "__init__"), qualname := (Str.ofString "Pattern.__init__"), params := parOf (methAt 8 0), body := .stmts (bodOf (methAt 8 0)), scope := scoOf (methAt 8 0), globals := 0, closure := [], defaults := .none, kwdefaults := .none, doc := .none, pyModule := .none, annotations := none, code := .none, closureTuple := .none, builtins := 0 }, (List.toArray [])⟩
noncomputable def o92v90 (P : Params) : Obj := ⟨.type "code", none, .fields (List.toArray [.str (Str.ofString "__init__") 301, .str (Str.ofString "Pattern.__init__") 302, .str (Str.ofString "/claim/cut.py") 303, .int (28) 0, .int (2) 0, .int (0) 0, .int (0) 0, .int (3) 0, .ref 87, .bool true, .int (181) 0, .ref 88, .none, .ref 89, .ref 90, .ref 91, .int (306) 0, .int (28) 0, .str (Str.ofString "/claim/cut.py") 307]), (List.toArray [])⟩
noncomputable def o93v91 (P : Params) : Obj := ⟨.type "function", none, .func { name := (Str.ofString "__init__"), qualname := (Str.ofString "Pattern.__init__"), params := parOf (methAt 8 0), body := .stmts (bodOf (methAt 8 0)), scope := scoOf (methAt 8 0), globals := 3, closure := [], defaults := .none, kwdefaults := .none, doc := .none, pyModule := .str (Str.ofString "snobol.values") 233, annotations := none, code := .ref 92, closureTuple := .none, builtins := 0 }, (List.toArray [])⟩
noncomputable def o94v92 (P : Params) : Obj := ⟨.type "tuple", none, .seq (List.toArray [.str (Str.ofString "node") 309]) 0, (List.toArray [])⟩
noncomputable def o95v93 (P : Params) : Obj := ⟨.type "dict", none, .dict (List.toArray [⟨PyData.keyHash P (Str.ofString "__module__"), .str (Str.ofString "__module__") 296, .str (Str.ofString "snobol.values") 233⟩, ⟨PyData.keyHash P (Str.ofString "__firstlineno__"), .str (Str.ofString "__firstlineno__") 300, .int (26) 299⟩, ⟨PyData.keyHash P (Str.ofString "__init__"), .str (Str.ofString "__init__") 308, .ref 93⟩, ⟨PyData.keyHash P (Str.ofString "__static_attributes__"), .str (Str.ofString "__static_attributes__") 310, .ref 94⟩, ⟨PyData.keyHash P (Str.ofString "__dict__"), .str (Str.ofString "__dict__") 312, .ref 97⟩, ⟨PyData.keyHash P (Str.ofString "__weakref__"), .str (Str.ofString "__weakref__") 314, .ref 98⟩, ⟨PyData.keyHash P (Str.ofString "__doc__"), .str (Str.ofString "__doc__") 315, .none⟩]) 4, (List.toArray [])⟩
noncomputable def o96v94 (P : Params) : Obj := ⟨.type "type", none, .cls { name := (Str.ofString "Pattern"), bases := [.type "object"], mro := [.ref 96, .type "object"], ns := 95, qualname := (Str.ofString "Pattern"), hasDict := true, slotNames := [], subclasses := [], abstract := false, collection := none, hasDel := false }, (List.toArray [none, none, some (.str (Str.ofString "Pattern") 289), some (.str (Str.ofString "Pattern") 297), some (.builtin "object.__new__"), some (.bool true)])⟩
noncomputable def o97v95 (P : Params) : Obj := ⟨.type "getset_descriptor", none, .fields (List.toArray [.str (Str.ofString "__dict__") 311, .ref 96, .builtin "function.__dict__", .builtin "function.__dict__#set"]), (List.toArray [])⟩
noncomputable def o98v96 (P : Params) : Obj := ⟨.type "getset_descriptor", none, .fields (List.toArray [.str (Str.ofString "__weakref__") 313, .ref 96, .builtin "ExceptionGroup.__weakref__", .none]), (List.toArray [])⟩
noncomputable def o99v97 (P : Params) : Obj := ⟨.type "super", none, .fields (List.toArray [.ref 96, .ref 96, .ref 96]), (List.toArray [])⟩
noncomputable def o100v98 (P : Params) : Obj := ⟨.type "builtin_function_or_method", none, .fields (List.toArray [.builtin "object.__init_subclass__", .ref 96]), (List.toArray [])⟩
noncomputable def T4 (P : Params) : BT := (.node (boot_o_0 P) (.node (boot_o_1 P) (.node (o3v76 P) (.node (boot_o_7 P) (.node (o15v6 P) (.node (o31v22 P) (.node (o63v57 P) .nil .nil) (.node (o95v93 P) .nil .nil)) (.node (o47v41 P) (.node (o79v75 P) .nil .nil) .nil)) (.node (o23v14 P) (.node (o39v30 P) (.node (o71v67 P) .nil .nil) .nil) (.node (o55v49 P) (.node (o87v85 P) .nil .nil) .nil))) (.node (o11v0 P) (.node (o19v10 P) (.node (o35v26 P) (.node (o67v63 P) .nil .nil) (.node (o99v97 P) .nil .nil)) (.node (o51v45 P) (.node (o83v81 P) .nil .nil) .nil)) (.node (o27v18 P) (.node (o43v37 P) (.node (o75v71 P) .nil .nil) .nil) (.node (o59v53 P) (.node (o91v89 P) .nil .nil) .nil)))) (.node (boot_o_5 P) (.node (boot_o_9 P) (.node (o17v8 P) (.node (o33v24 P) (.node (o65v59 P) .nil .nil) (.node (o97v95 P) .nil .nil)) (.node (o49v43 P) (.node (o81v79 P) .nil .nil) .nil)) (.node (o25v16 P) (.node (o41v32 P) (.node (o73v69 P) .nil .nil) .nil) (.node (o57v51 P) (.node (o89v87 P) .nil .nil) .nil))) (.node (o13v2 P) (.node (o21v12 P) (.node (o37v28 P) (.node (o69v65 P) .nil .nil) .nil) (.node (o53v47 P) (.node (o85v83 P) .nil .nil) .nil)) (.node (o29v20 P) (.node (o45v39 P) (.node (o77v73 P) .nil .nil) .nil) (.node (o61v55 P) (.node (o93v91 P) .nil .nil) .nil))))) (.node (o2v34 P) (.node (boot_o_4 P) (.node (boot_o_8 P) (.node (o16v7 P) (.node (o32v23 P) (.node (o64v58 P) .nil .nil) (.node (o96v94 P) .nil .nil)) (.node (o48v42 P) (.node (o80v78 P) .nil .nil) .nil)) (.node (o24v15 P) (.node (o40v31 P) (.node (o72v68 P) .nil .nil) .nil) (.node (o56v50 P) (.node (o88v86 P) .nil .nil) .nil))) (.node (o12v77 P) (.node (o20v11 P) (.node (o36v27 P) (.node (o68v64 P) .nil .nil) (.node (o100v98 P) .nil .nil)) (.node (o52v46 P) (.node (o84v82 P) .nil .nil) .nil)) (.node (o28v19 P) (.node (o44v38 P) (.node (o76v72 P) .nil .nil) .nil) (.node (o60v54 P) (.node (o92v90 P) .nil .nil) .nil)))) (.node (boot_o_6 P) (.node (boot_o_10 P) (.node (o18v9 P) (.node (o34v25 P) (.node (o66v62 P) .nil .nil) (.node (o98v96 P) .nil .nil)) (.node (o50v44 P) (.node (o82v80 P) .nil .nil) .nil)) (.node (o26v17 P) (.node (o42v33 P) (.node (o74v70 P) .nil .nil) .nil) (.node (o58v52 P) (.node (o90v88 P) .nil .nil) .nil))) (.node (o14v3 P) (.node (o22v13 P) (.node (o38v29 P) (.node (o70v66 P) .nil .nil) .nil) (.node (o54v48 P) (.node (o86v84 P) .nil .nil) .nil)) (.node (o30v21 P) (.node (o46v40 P) (.node (o78v74 P) .nil .nil) .nil) (.node (o62v56 P) (.node (o94v92 P) .nil .nil) .nil))))))
noncomputable def o3v99 (P : Params) : Obj := ⟨.type "dict", none, .dict (List.toArray [⟨PyData.keyHash P (Str.ofString "__name__"), .str (Str.ofString "__name__") 165, .str (Str.ofString "snobol.values") 233⟩, ⟨PyData.keyHash P (Str.ofString "__doc__"), .str (Str.ofString "__doc__") 166, .none⟩, ⟨PyData.keyHash P (Str.ofString "__package__"), .str (Str.ofString "__package__") 167, .none⟩, ⟨PyData.keyHash P (Str.ofString "__loader__"), .str (Str.ofString "__loader__") 168, .builtin "__main__.__loader__#opaque"⟩, ⟨PyData.keyHash P (Str.ofString "__spec__"), .str (Str.ofString "__spec__") 169, .none⟩, ⟨PyData.keyHash P (Str.ofString "__annotations__"), .str (Str.ofString "__annotations__") 170, .ref 6⟩, ⟨PyData.keyHash P (Str.ofString "__builtins__"), .str (Str.ofString "__builtins__") 171, .ref 4⟩, ⟨PyData.keyHash P (Str.ofString "__file__"), .str (Str.ofString "__file__") 173, .str (Str.ofString "/claim/cut.py") 172⟩, ⟨PyData.keyHash P (Str.ofString "__cached__"), .str (Str.ofString "__cached__") 174, .none⟩, ⟨PyData.keyHash P (Str.ofString "give_names"), .str (Str.ofString "give_names") 198, .ref 21⟩, ⟨PyData.keyHash P (Str.ofString "three_pieces"), .str (Str.ofString "three_pieces") 206, .ref 28⟩, ⟨PyData.keyHash P (Str.ofString "spliced"), .str (Str.ofString "spliced") 218, .ref 35⟩, ⟨PyData.keyHash P (Str.ofString "replace_once"), .str (Str.ofString "replace_once") 232, .ref 42⟩, ⟨PyData.keyHash P (Str.ofString "SnobolError"), .str (Str.ofString "SnobolError") 268, .ref 62⟩, ⟨PyData.keyHash P (Str.ofString "Failure"), .str (Str.ofString "Failure") 288, .ref 75⟩, ⟨PyData.keyHash P (Str.ofString "Pattern"), .str (Str.ofString "Pattern") 317, .ref 96⟩, ⟨PyData.keyHash P (Str.ofString "Delayed"), .str (Str.ofString "Delayed") 346, .ref 117⟩]) 17, (List.toArray [])⟩
noncomputable def o12v100 (P : Params) : Obj := ⟨.none, none, .fields (List.toArray [.int (2) 0, .int (0) 0, .ref 20, .int (5) 0, .int (0) 0, .ref 27, .int (7) 0, .int (0) 0, .ref 34, .int (10) 0, .int (0) 0, .ref 41, .int (18) 0, .int (0) 0, .ref 49, .int (24) 0, .int (0) 0, .ref 71, .int (26) 0, .int (0) 0, .ref 85, .int (30) 0, .int (0) 0, .ref 106]), (List.toArray [])⟩
noncomputable def o101v101 (P : Params) : Obj := ⟨.type "tuple", none, .seq (List.toArray []) 0, (List.toArray [])⟩
noncomputable def o102v102 (P : Params) : Obj := ⟨.type "builtin_function_or_method", none, .fields (List.toArray [.builtin "type.__prepare__", .type "type"]), (List.toArray [])⟩
noncomputable def o103v103 (P : Params) : Obj := ⟨.type "dict", none, .dict (List.toArray [⟨PyData.keyHash P (Str.ofString "__module__"), .str (Str.ofString "__module__") 325, .str (Str.ofString "snobol.values") 233⟩, ⟨PyData.keyHash P (Str.ofString "__qualname__"), .str (Str.ofString "__qualname__") 327, .str (Str.ofString "Delayed") 326⟩, ⟨PyData.keyHash P (Str.ofString "__firstlineno__"), .str (Str.ofString "__firstlineno__") 329, .int (30) 328⟩, ⟨PyData.keyHash P (Str.ofString "__init__"), .str (Str.ofString "__init__") 337, .ref 114⟩, ⟨PyData.keyHash P (Str.ofString "__static_attributes__"), .str (Str.ofString "__static_attributes__") 339, .ref 115⟩]) 5, (List.toArray [])⟩
noncomputable def o104v104 (P : Params) : Obj := ⟨.type "tuple", none, .seq (List.toArray []) 0, (List.toArray [])⟩
noncomputable def o105v105 (P : Params) : Obj := ⟨.none, none, .fields (List.toArray [.int (32) 0, .int (4) 0, .ref 113]), (List.toArray [])⟩
noncomputable def o106v106 (P : Params) : Obj := ⟨.type "code", none, .fields (List.toArray [.str (Str.ofString "Delayed") 320, .str (Str.ofString "Delayed") 321, .str (Str.ofString "/claim/cut.py") 322, .int (30) 0, .int (0) 0, .int (0) 0, .int (0) 0, .int (0) 0, .ref 104, .bool false, .int (181) 0, .ref 105, .none, .none, .none, .none, .int (323) 0, .int (30) 0, .str (Str.ofString "/claim/cut.py") 324]), (List.toArray [])⟩
noncomputable def o107v107 (P : Params) : Obj := ⟨.type "frame", none, .plain, (List.toArray [some (.ref 106), some (.ref 3), some (.ref 103), none, some (.str (Str.ofString "snobol.values") 233), none, some (.ref 0)])⟩
noncomputable def o108v108 (P : Params) : Obj := ⟨.type "tuple", none, .seq (List.toArray []) 0, (List.toArray [])⟩
noncomputable def o109v109 (P : Params) : Obj := ⟨.none, none, .fields (List.toArray []), (List.toArray [])⟩
noncomputable def o110v110 (P : Params) : Obj := ⟨.type "tuple", none, .seq (List.toArray [.str (Str.ofString "self") 333, .str (Str.ofString "tree") 334]) 0, (List.toArray [])⟩
noncomputable def o111v111 (P : Params) : Obj := ⟨.type "tuple", none, .seq (List.toArray []) 0, (List.toArray [])⟩
noncomputable def o112v112 (P : Params) : Obj := ⟨.none, none, .func { name := (Str.ofString "__init__"), qualname := (Str.ofString "Delayed.__init__"), params := parOf (methAt 9 0), body := .stmts (bodOf (methAt 9 0)), scope := scoOf (methAt 9 0), globals := 0, closure := [], defaults := .none, kwdefaults := .none, doc := .none, pyModule := .none, annotations := none, code := .none, closureTuple := .none, builtins := 0 }, (List.toArray [])⟩
noncomputable def o113v113 (P : Params) : Obj := ⟨.type "code", none, .fields (List.toArray [.str (Str.ofString "__init__") 330, .str (Str.ofString "Delayed.__init__") 331, .str (Str.ofString "/claim/cut.py") 332, .int (32) 0, .int (2) 0, .int (0) 0, .int (0) 0, .int (3) 0, .ref 108, .bool true, .int (181) 0, .ref 109, .none, .ref 110, .ref 111, .ref 112, .int (335) 0, .int (32) 0, .str (Str.ofString "/claim/cut.py") 336]), (List.toArray [])⟩
noncomputable def o114v114 (P : Params) : Obj := ⟨.type "function", none, .func { name := (Str.ofString "__init__"), qualname := (Str.ofString "Delayed.__init__"), params := parOf (methAt 9 0), body := .stmts (bodOf (methAt 9 0)), scope := scoOf (methAt 9 0), globals := 3, closure := [], defaults := .none, kwdefaults := .none, doc := .none, pyModule := .str (Str.ofString "snobol.values") 233, annotations := none, code := .ref 113, closureTuple := .none, builtins := 0 }, (List.toArray [])⟩
noncomputable def o115v115 (P : Params) : Obj := ⟨.type "tuple", none, .seq (List.toArray [.str (Str.ofString "tree") 338]) 0, (List.toArray [])⟩
noncomputable def o116v116 (P : Params) : Obj := ⟨.type "dict", none, .dict (List.toArray [⟨PyData.keyHash P (Str.ofString "__module__"), .str (Str.ofString "__module__") 325, .str (Str.ofString "snobol.values") 233⟩, ⟨PyData.keyHash P (Str.ofString "__firstlineno__"), .str (Str.ofString "__firstlineno__") 329, .int (30) 328⟩, ⟨PyData.keyHash P (Str.ofString "__init__"), .str (Str.ofString "__init__") 337, .ref 114⟩, ⟨PyData.keyHash P (Str.ofString "__static_attributes__"), .str (Str.ofString "__static_attributes__") 339, .ref 115⟩, ⟨PyData.keyHash P (Str.ofString "__dict__"), .str (Str.ofString "__dict__") 341, .ref 118⟩, ⟨PyData.keyHash P (Str.ofString "__weakref__"), .str (Str.ofString "__weakref__") 343, .ref 119⟩, ⟨PyData.keyHash P (Str.ofString "__doc__"), .str (Str.ofString "__doc__") 344, .none⟩]) 4, (List.toArray [])⟩
noncomputable def o117v117 (P : Params) : Obj := ⟨.type "type", none, .cls { name := (Str.ofString "Delayed"), bases := [.type "object"], mro := [.ref 117, .type "object"], ns := 116, qualname := (Str.ofString "Delayed"), hasDict := true, slotNames := [], subclasses := [], abstract := false, collection := none, hasDel := false }, (List.toArray [none, none, some (.str (Str.ofString "Delayed") 318), some (.str (Str.ofString "Delayed") 326), some (.builtin "object.__new__"), some (.bool true)])⟩
noncomputable def o118v118 (P : Params) : Obj := ⟨.type "getset_descriptor", none, .fields (List.toArray [.str (Str.ofString "__dict__") 340, .ref 117, .builtin "function.__dict__", .builtin "function.__dict__#set"]), (List.toArray [])⟩
noncomputable def o119v119 (P : Params) : Obj := ⟨.type "getset_descriptor", none, .fields (List.toArray [.str (Str.ofString "__weakref__") 342, .ref 117, .builtin "ExceptionGroup.__weakref__", .none]), (List.toArray [])⟩
noncomputable def o120v120 (P : Params) : Obj := ⟨.type "super", none, .fields (List.toArray [.ref 117, .ref 117, .ref 117]), (List.toArray [])⟩
noncomputable def o121v121 (P : Params) : Obj := ⟨.type "builtin_function_or_method", none, .fields (List.toArray [.builtin "object.__init_subclass__", .ref 117]), (List.toArray [])⟩
noncomputable def T5 (P : Params) : BT := (.node (boot_o_0 P) (.node (boot_o_1 P) (.node (o3v99 P) (.node (boot_o_7 P) (.node (o15v6 P) (.node (o31v22 P) (.node (o63v57 P) .nil .nil) (.node (o95v93 P) .nil .nil)) (.node (o47v41 P) (.node (o79v75 P) .nil .nil) (.node (o111v111 P) .nil .nil))) (.node (o23v14 P) (.node (o39v30 P) (.node (o71v67 P) .nil .nil) (.node (o103v103 P) .nil .nil)) (.node (o55v49 P) (.node (o87v85 P) .nil .nil) (.node (o119v119 P) .nil .nil)))) (.node (o11v0 P) (.node (o19v10 P) (.node (o35v26 P) (.node (o67v63 P) .nil .nil) (.node (o99v97 P) .nil .nil)) (.node (o51v45 P) (.node (o83v81 P) .nil .nil) (.node (o115v115 P) .nil .nil))) (.node (o27v18 P) (.node (o43v37 P) (.node (o75v71 P) .nil .nil) (.node (o107v107 P) .nil .nil)) (.node (o59v53 P) (.node (o91v89 P) .nil .nil) .nil)))) (.node (boot_o_5 P) (.node (boot_o_9 P) (.node (o17v8 P) (.node (o33v24 P) (.node (o65v59 P) .nil .nil) (.node (o97v95 P) .nil .nil)) (.node (o49v43 P) (.node (o81v79 P) .nil .nil) (.node (o113v113 P) .nil .nil))) (.node (o25v16 P) (.node (o41v32 P) (.node (o73v69 P) .nil .nil) (.node (o105v105 P) .nil .nil)) (.node (o57v51 P) (.node (o89v87 P) .nil .nil) (.node (o121v121 P) .nil .nil)))) (.node (o13v2 P) (.node (o21v12 P) (.node (o37v28 P) (.node (o69v65 P) .nil .nil) (.node (o101v101 P) .nil .nil)) (.node (o53v47 P) (.node (o85v83 P) .nil .nil) (.node (o117v117 P) .nil .nil))) (.node (o29v20 P) (.node (o45v39 P) (.node (o77v73 P) .nil .nil) (.node (o109v109 P) .nil .nil)) (.node (o61v55 P) (.node (o93v91 P) .nil .nil) .nil))))) (.node (o2v34 P) (.node (boot_o_4 P) (.node (boot_o_8 P) (.node (o16v7 P) (.node (o32v23 P) (.node (o64v58 P) .nil .nil) (.node (o96v94 P) .nil .nil)) (.node (o48v42 P) (.node (o80v78 P) .nil .nil) (.node (o112v112 P) .nil .nil))) (.node (o24v15 P) (.node (o40v31 P) (.node (o72v68 P) .nil .nil) (.node (o104v104 P) .nil .nil)) (.node (o56v50 P) (.node (o88v86 P) .nil .nil) (.node (o120v120 P) .nil .nil)))) (.node (o12v100 P) (.node (o20v11 P) (.node (o36v27 P) (.node (o68v64 P) .nil .nil) (.node (o100v98 P) .nil .nil)) (.node (o52v46 P) (.node (o84v82 P) .nil .nil) (.node (o116v116 P) .nil .nil))) (.node (o28v19 P) (.node (o44v38 P) (.node (o76v72 P) .nil .nil) (.node (o108v108 P) .nil .nil)) (.node (o60v54 P) (.node (o92v90 P) .nil .nil) .nil)))) (.node (boot_o_6 P) (.node (boot_o_10 P) (.node (o18v9 P) (.node (o34v25 P) (.node (o66v62 P) .nil .nil) (.node (o98v96 P) .nil .nil)) (.node (o50v44 P) (.node (o82v80 P) .nil .nil) (.node (o114v114 P) .nil .nil))) (.node (o26v17 P) (.node (o42v33 P) (.node (o74v70 P) .nil .nil) (.node (o106v106 P) .nil .nil)) (.node (o58v52 P) (.node (o90v88 P) .nil .nil) .nil))) (.node (o14v3 P) (.node (o22v13 P) (.node (o38v29 P) (.node (o70v66 P) .nil .nil) (.node (o102v102 P) .nil .nil)) (.node (o54v48 P) (.node (o86v84 P) .nil .nil) (.node (o118v118 P) .nil .nil))) (.node (o30v21 P) (.node (o46v40 P) (.node (o78v74 P) .nil .nil) (.node (o110v110 P) .nil .nil)) (.node (o62v56 P) (.node (o94v92 P) .nil .nil) .nil))))))
noncomputable def o3v122 (P : Params) : Obj := ⟨.type "dict", none, .dict (List.toArray [⟨PyData.keyHash P (Str.ofString "__name__"), .str (Str.ofString "__name__") 165, .str (Str.ofString "snobol.values") 233⟩, ⟨PyData.keyHash P (Str.ofString "__doc__"), .str (Str.ofString "__doc__") 166, .none⟩, ⟨PyData.keyHash P (Str.ofString "__package__"), .str (Str.ofString "__package__") 167, .none⟩, ⟨PyData.keyHash P (Str.ofString "__loader__"), .str (Str.ofString "__loader__") 168, .builtin "__main__.__loader__#opaque"⟩, ⟨PyData.keyHash P (Str.ofString "__spec__"), .str (Str.ofString "__spec__") 169, .none⟩, ⟨PyData.keyHash P (Str.ofString "__annotations__"), .str (Str.ofString "__annotations__") 170, .ref 6⟩, ⟨PyData.keyHash P (Str.ofString "__builtins__"), .str (Str.ofString "__builtins__") 171, .ref 4⟩, ⟨PyData.keyHash P (Str.ofString "__file__"), .str (Str.ofString "__file__") 173, .str (Str.ofString "/claim/cut.py") 172⟩, ⟨PyData.keyHash P (Str.ofString "__cached__"), .str (Str.ofString "__cached__") 174, .none⟩, ⟨PyData.keyHash P (Str.ofString "give_names"), .str (Str.ofString "give_names") 198, .ref 21⟩, ⟨PyData.keyHash P (Str.ofString "three_pieces"), .str (Str.ofString "three_pieces") 206, .ref 28⟩, ⟨PyData.keyHash P (Str.ofString "spliced"), .str (Str.ofString "spliced") 218, .ref 35⟩, ⟨PyData.keyHash P (Str.ofString "replace_once"), .str (Str.ofString "replace_once") 232, .ref 42⟩, ⟨PyData.keyHash P (Str.ofString "SnobolError"), .str (Str.ofString "SnobolError") 268, .ref 62⟩, ⟨PyData.keyHash P (Str.ofString "Failure"), .str (Str.ofString "Failure") 288, .ref 75⟩, ⟨PyData.keyHash P (Str.ofString "Pattern"), .str (Str.ofString "Pattern") 317, .ref 96⟩, ⟨PyData.keyHash P (Str.ofString "Delayed"), .str (Str.ofString "Delayed") 346, .ref 117⟩, ⟨PyData.keyHash P (Str.ofString "NameRef"), .str (Str.ofString "NameRef") 379, .ref 138⟩, ⟨PyData.keyHash P (Str.ofString "is_fail"), .str (Str.ofString "is_fail") 386, .ref 149⟩, ⟨PyData.keyHash P (Str.ofString "fits"), .str (Str.ofString "fits") 394, .ref 156⟩, ⟨PyData.keyHash P (Str.ofString "whole_of_text"), .str (Str.ofString "whole_of_text") 405, .ref 163⟩]) 21, (List.toArray [])⟩
noncomputable def o12v123 (P : Params) : Obj := ⟨.none, none, .fields (List.toArray [.int (2) 0, .int (0) 0, .ref 20, .int (5) 0, .int (0) 0, .ref 27, .int (7) 0, .int (0) 0, .ref 34, .int (10) 0, .int (0) 0, .ref 41, .int (18) 0, .int (0) 0, .ref 49, .int (24) 0, .int (0) 0, .ref 71, .int (26) 0, .int (0) 0, .ref 85, .int (30) 0, .int (0) 0, .ref 106, .int (34) 0, .int (0) 0, .ref 127, .int (40) 0, .int (0) 0, .ref 148, .int (42) 0, .int (0) 0, .ref 155, .int (44) 0, .int (0) 0, .ref 162]), (List.toArray [])⟩
noncomputable def o122v124 (P : Params) : Obj := ⟨.type "tuple", none, .seq (List.toArray []) 0, (List.toArray [])⟩
noncomputable def o123v125 (P : Params) : Obj := ⟨.type "builtin_function_or_method", none, .fields (List.toArray [.builtin "type.__prepare__", .type "type"]), (List.toArray [])⟩
noncomputable def o124v126 (P : Params) : Obj := ⟨.type "dict", none, .dict (List.toArray [⟨PyData.keyHash P (Str.ofString "__module__"), .str (Str.ofString "__module__") 354, .str (Str.ofString "snobol.values") 233⟩, ⟨PyData.keyHash P (Str.ofString "__qualname__"), .str (Str.ofString "__qualname__") 356, .str (Str.ofString "NameRef") 355⟩, ⟨PyData.keyHash P (Str.ofString "__firstlineno__"), .str (Str.ofString "__firstlineno__") 358, .int (34) 357⟩, ⟨PyData.keyHash P (Str.ofString "__init__"), .str (Str.ofString "__init__") 368, .ref 135⟩, ⟨PyData.keyHash P (Str.ofString "__static_attributes__"), .str (Str.ofString "__static_attributes__") 372, .ref 136⟩]) 5, (List.toArray [])⟩
noncomputable def o125v127 (P : Params) : Obj := ⟨.type "tuple", none, .seq (List.toArray []) 0, (List.toArray [])⟩
noncomputable def o126v128 (P : Params) : Obj := ⟨.none, none, .fields (List.toArray [.int (36) 0, .int (4) 0, .ref 134]), (List.toArray [])⟩
noncomputable def o127v129 (P : Params) : Obj := ⟨.type "code", none, .fields (List.toArray [.str (Str.ofString "NameRef") 349, .str (Str.ofString "NameRef") 350, .str (Str.ofString "/claim/cut.py") 351, .int (34) 0, .int (0) 0, .int (0) 0, .int (0) 0, .int (0) 0, .ref 125, .bool false, .int (181) 0, .ref 126, .none, .none, .none, .none, .int (352) 0, .int (34) 0, .str (Str.ofString "/claim/cut.py") 353]), (List.toArray [])⟩
noncomputable def o128v130 (P : Params) : Obj := ⟨.type "frame", none, .plain, (List.toArray [some (.ref 127), some (.ref 3), some (.ref 124), none, some (.str (Str.ofString "snobol.values") 233), none, some (.ref 0)])⟩
noncomputable def o129v131 (P : Params) : Obj := ⟨.type "tuple", none, .seq (List.toArray []) 0, (List.toArray [])⟩
noncomputable def o130v132 (P : Params) : Obj := ⟨.none, none, .fields (List.toArray []), (List.toArray [])⟩
noncomputable def o131v133 (P : Params) : Obj := ⟨.type "tuple", none, .seq (List.toArray [.str (Str.ofString "self") 362, .str (Str.ofString "kind") 363, .str (Str.ofString "owner") 364, .str (Str.ofString "key") 365]) 0, (List.toArray [])⟩
noncomputable def o132v134 (P : Params) : Obj := ⟨.type "tuple", none, .seq (List.toArray []) 0, (List.toArray [])⟩
noncomputable def o133v135 (P : Params) : Obj := ⟨.none, none, .func { name := (Str.ofString "__init__"), qualname := (Str.ofString "NameRef.__init__"), params := parOf (methAt 10 0), body := .stmts (bodOf (methAt 10 0)), scope := scoOf (methAt 10 0), globals := 0, closure := [], defaults := .none, kwdefaults := .none, doc := .none, pyModule := .none, annotations := none, code := .none, closureTuple := .none, builtins := 0 }, (List.toArray [])⟩
noncomputable def o134v136 (P : Params) : Obj := ⟨.type "code", none, .fields (List.toArray [.str (Str.ofString "__init__") 359, .str (Str.ofString "NameRef.__init__") 360, .str (Str.ofString "/claim/cut.py") 361, .int (36) 0, .int (4) 0, .int (0) 0, .int (0) 0, .int (3) 0, .ref 129, .bool true, .int (181) 0, .ref 130, .none, .ref 131, .ref 132, .ref 133, .int (366) 0, .int (36) 0, .str (Str.ofString "/claim/cut.py") 367]), (List.toArray [])⟩
noncomputable def o135v137 (P : Params) : Obj := ⟨.type "function", none, .func { name := (Str.ofString "__init__"), qualname := (Str.ofString "NameRef.__init__"), params := parOf (methAt 10 0), body := .stmts (bodOf (methAt 10 0)), scope := scoOf (methAt 10 0), globals := 3, closure := [], defaults := .none, kwdefaults := .none, doc := .none, pyModule := .str (Str.ofString "snobol.values") 233, annotations := none, code := .ref 134, closureTuple := .none, builtins := 0 }, (List.toArray [])⟩
noncomputable def o136v138 (P : Params) : Obj := ⟨.type "tuple", none, .seq (List.toArray [.str (Str.ofString "key") 369, .str (Str.ofString "kind") 370, .str (Str.ofString "owner") 371]) 0, (List.toArray [])⟩
noncomputable def o137v139 (P : Params) : Obj := ⟨.type "dict", none, .dict (List.toArray [⟨PyData.keyHash P (Str.ofString "__module__"), .str (Str.ofString "__module__") 354, .str (Str.ofString "snobol.values") 233⟩, ⟨PyData.keyHash P (Str.ofString "__firstlineno__"), .str (Str.ofString "__firstlineno__") 358, .int (34) 357⟩, ⟨PyData.keyHash P (Str.ofString "__init__"), .str (Str.ofString "__init__") 368, .ref 135⟩, ⟨PyData.keyHash P (Str.ofString "__static_attributes__"), .str (Str.ofString "__static_attributes__") 372, .ref 136⟩, ⟨PyData.keyHash P (Str.ofString "__dict__"), .str (Str.ofString "__dict__") 374, .ref 139⟩, ⟨PyData.keyHash P (Str.ofString "__weakref__"), .str (Str.ofString "__weakref__") 376, .ref 140⟩, ⟨PyData.keyHash P (Str.ofString "__doc__"), .str (Str.ofString "__doc__") 377, .none⟩]) 4, (List.toArray [])⟩
noncomputable def o138v140 (P : Params) : Obj := ⟨.type "type", none, .cls { name := (Str.ofString "NameRef"), bases := [.type "object"], mro := [.ref 138, .type "object"], ns := 137, qualname := (Str.ofString "NameRef"), hasDict := true, slotNames := [], subclasses := [], abstract := false, collection := none, hasDel := false }, (List.toArray [none, none, some (.str (Str.ofString "NameRef") 347), some (.str (Str.ofString "NameRef") 355), some (.builtin "object.__new__"), some (.bool true)])⟩
noncomputable def o139v141 (P : Params) : Obj := ⟨.type "getset_descriptor", none, .fields (List.toArray [.str (Str.ofString "__dict__") 373, .ref 138, .builtin "function.__dict__", .builtin "function.__dict__#set"]), (List.toArray [])⟩
noncomputable def o140v142 (P : Params) : Obj := ⟨.type "getset_descriptor", none, .fields (List.toArray [.str (Str.ofString "__weakref__") 375, .ref 138, .builtin "ExceptionGroup.__weakref__", .none]), (List.toArray [])⟩
noncomputable def o141v143 (P : Params) : Obj := ⟨.type "super", none, .fields (List.toArray [.ref 138, .ref 138, .ref 138]), (List.toArray [])⟩
noncomputable def o142v144 (P : Params) : Obj := ⟨.type "builtin_function_or_method", none, .fields (List.toArray [.builtin "object.__init_subclass__", .ref 138]), (List.toArray [])⟩
noncomputable def o143v145 (P : Params) : Obj := ⟨.type "tuple", none, .seq (List.toArray []) 0, (List.toArray [])⟩
noncomputable def o144v146 (P : Params) : Obj := ⟨.none, none, .fields (List.toArray []), (List.toArray [])⟩
noncomputable def o145v147 (P : Params) : Obj := ⟨.type "tuple", none, .seq (List.toArray [.str (Str.ofString "value") 383]) 0, (List.toArray [])⟩
noncomputable def o146v148 (P : Params) : Obj := ⟨.type "tuple", none, .seq (List.toArray []) 0, (List.toArray [])⟩
noncomputable def o147v149 (P : Params) : Obj := ⟨.none, none, .func { name := (Str.ofString "is_fail"), qualname := (Str.ofString "is_fail"), params := parOf (stAt 11), body := .stmts (bodOf (stAt 11)), scope := scoOf (stAt 11), globals := 0, closure := [], defaults := .none, kwdefaults := .none, doc := .none, pyModule := .none, annotations := none, code := .none, closureTuple := .none, builtins := 0 }, (List.toArray [])⟩
noncomputable def o148v150 (P : Params) : Obj := ⟨.type "code", none, .fields (List.toArray [.str (Str.ofString "is_fail") 380, .str (Str.ofString "is_fail") 381, .str (Str.ofString "/claim/cut.py") 382, .int (40) 0, .int (1) 0, .int (0) 0, .int (0) 0, .int (3) 0, .ref 143, .bool true, .int (181) 0, .ref 144, .none, .ref 145, .ref 146, .ref 147, .int (384) 0, .int (40) 0, .str (Str.ofString "/claim/cut.py") 385]), (List.toArray [])⟩
noncomputable def o149v151 (P : Params) : Obj := ⟨.type "function", none, .func { name := (Str.ofString "is_fail"), qualname := (Str.ofString "is_fail"), params := parOf (stAt 11), body := .stmts (bodOf (stAt 11)), scope := scoOf (stAt 11), globals := 3, closure := [], defaults := .none, kwdefaults := .none, doc := .none, pyModule := .str (Str.ofString "snobol.values") 233, annotations := none, code := .ref 148, closureTuple := .none, builtins := 0 }, (List.toArray [])⟩
noncomputable def o150v152 (P : Params) : Obj := ⟨.type "tuple", none, .seq (List.toArray []) 0, (List.toArray [])⟩
noncomputable def o151v153 (P : Params) : Obj := ⟨.none, none, .fields (List.toArray []), (List.toArray [])⟩
noncomputable def o152v154 (P : Params) : Obj := ⟨.type "tuple", none, .seq (List.toArray [.str (Str.ofString "number") 390, .str (Str.ofString "width") 391]) 0, (List.toArray [])⟩
noncomputable def o153v155 (P : Params) : Obj := ⟨.type "tuple", none, .seq (List.toArray []) 0, (List.toArray [])⟩
noncomputable def o154v156 (P : Params) : Obj := ⟨.none, none, .func { name := (Str.ofString "fits"), qualname := (Str.ofString "fits"), params := parOf (stAt 12), body := .stmts (bodOf (stAt 12)), scope := scoOf (stAt 12), globals := 0, closure := [], defaults := .none, kwdefaults := .none, doc := .none, pyModule := .none, annotations := none, code := .none, closureTuple := .none, builtins := 0 }, (List.toArray [])⟩
noncomputable def o155v157 (P : Params) : Obj := ⟨.type "code", none, .fields (List.toArray [.str (Str.ofString "fits") 387, .str (Str.ofString "fits") 388, .str (Str.ofString "/claim/cut.py") 389, .int (42) 0, .int (2) 0, .int (0) 0, .int (0) 0, .int (3) 0, .ref 150, .bool true, .int (181) 0, .ref 151, .none, .ref 152, .ref 153, .ref 154, .int (392) 0, .int (42) 0, .str (Str.ofString "/claim/cut.py") 393]), (List.toArray [])⟩
noncomputable def o156v158 (P : Params) : Obj := ⟨.type "function", none, .func { name := (Str.ofString "fits"), qualname := (Str.ofString "fits"), params := parOf (stAt 12), body := .stmts (bodOf (stAt 12)), scope := scoOf (stAt 12), globals := 3, closure := [], defaults := .none, kwdefaults := .none, doc := .none, pyModule := .str (Str.ofString "snobol.values") 233, annotations := none, code := .ref 155, closureTuple := .none, builtins := 0 }, (List.toArray [])⟩
noncomputable def o157v159 (P : Params) : Obj := ⟨.type "tuple", none, .seq (List.toArray []) 0, (List.toArray [])⟩
noncomputable def o158v160 (P : Params) : Obj := ⟨.none, none, .fields (List.toArray []), (List.toArray [])⟩
noncomputable def o159v161 (P : Params) : Obj := ⟨.type "tuple", none, .seq (List.toArray [.str (Str.ofString "text") 398, .str (Str.ofString "width") 399, .str (Str.ofString "digits") 400, .str (Str.ofString "number") 401, .str (Str.ofString "sign") 402]) 0, (List.toArray [])⟩
noncomputable def o160v162 (P : Params) : Obj := ⟨.type "tuple", none, .seq (List.toArray []) 0, (List.toArray [])⟩
noncomputable def o161v163 (P : Params) : Obj := ⟨.none, none, .func { name := (Str.ofString "whole_of_text"), qualname := (Str.ofString "whole_of_text"), params := parOf (stAt 13), body := .stmts (bodOf (stAt 13)), scope := scoOf (stAt 13), globals := 0, closure := [], defaults := .none, kwdefaults := .none, doc := .none, pyModule := .none, annotations := none, code := .none, closureTuple := .none, builtins := 0 }, (List.toArray [])⟩
noncomputable def o162v164 (P : Params) : Obj := ⟨.type "code", none, .fields (List.toArray [.str (Str.ofString "whole_of_text") 395, .str (Str.ofString "whole_of_text") 396, .str (Str.ofString "/claim/cut.py") 397, .int (44) 0, .int (2) 0, .int (0) 0, .int (0) 0, .int (3) 0, .ref 157, .bool true, .int (181) 0, .ref 158, .none, .ref 159, .ref 160, .ref 161, .int (403) 0, .int (44) 0, .str (Str.ofString "/claim/cut.py") 404]), (List.toArray [])⟩
noncomputable def o163v165 (P : Params) : Obj := ⟨.type "function", none, .func { name := (Str.ofString "whole_of_text"), qualname := (Str.ofString "whole_of_text"), params := parOf (stAt 13), body := .stmts (bodOf (stAt 13)), scope := scoOf (stAt 13), globals := 3, closure := [], defaults := .none, kwdefaults := .none, doc := .none, pyModule := .str (Str.ofString "snobol.values") 233, annotations := none, code := .ref 162, closureTuple := .none, builtins := 0 }, (List.toArray [])⟩
noncomputable def T6 (P : Params) : BT := (.node (boot_o_0 P) (.node (boot_o_1 P) (.node (o3v122 P) (.node (boot_o_7 P) (.node (o15v6 P) (.node (o31v22 P) (.node (o63v57 P) (.node (o127v129 P) .nil .nil) .nil) (.node (o95v93 P) (.node (o159v161 P) .nil .nil) .nil)) (.node (o47v41 P) (.node (o79v75 P) (.node (o143v145 P) .nil .nil) .nil) (.node (o111v111 P) .nil .nil))) (.node (o23v14 P) (.node (o39v30 P) (.node (o71v67 P) (.node (o135v137 P) .nil .nil) .nil) (.node (o103v103 P) .nil .nil)) (.node (o55v49 P) (.node (o87v85 P) (.node (o151v153 P) .nil .nil) .nil) (.node (o119v119 P) .nil .nil)))) (.node (o11v0 P) (.node (o19v10 P) (.node (o35v26 P) (.node (o67v63 P) (.node (o131v133 P) .nil .nil) .nil) (.node (o99v97 P) (.node (o163v165 P) .nil .nil) .nil)) (.node (o51v45 P) (.node (o83v81 P) (.node (o147v149 P) .nil .nil) .nil) (.node (o115v115 P) .nil .nil))) (.node (o27v18 P) (.node (o43v37 P) (.node (o75v71 P) (.node (o139v141 P) .nil .nil) .nil) (.node (o107v107 P) .nil .nil)) (.node (o59v53 P) (.node (o91v89 P) (.node (o155v157 P) .nil .nil) .nil) (.node (o123v125 P) .nil .nil))))) (.node (boot_o_5 P) (.node (boot_o_9 P) (.node (o17v8 P) (.node (o33v24 P) (.node (o65v59 P) (.node (o129v131 P) .nil .nil) .nil) (.node (o97v95 P) (.node (o161v163 P) .nil .nil) .nil)) (.node (o49v43 P) (.node (o81v79 P) (.node (o145v147 P) .nil .nil) .nil) (.node (o113v113 P) .nil .nil))) (.node (o25v16 P) (.node (o41v32 P) (.node (o73v69 P) (.node (o137v139 P) .nil .nil) .nil) (.node (o105v105 P) .nil .nil)) (.node (o57v51 P) (.node (o89v87 P) (.node (o153v155 P) .nil .nil) .nil) (.node (o121v121 P) .nil .nil)))) (.node (o13v2 P) (.node (o21v12 P) (.node (o37v28 P) (.node (o69v65 P) (.node (o133v135 P) .nil .nil) .nil) (.node (o101v101 P) .nil .nil)) (.node (o53v47 P) (.node (o85v83 P) (.node (o149v151 P) .nil .nil) .nil) (.node (o117v117 P) .nil .nil))) (.node (o29v20 P) (.node (o45v39 P) (.node (o77v73 P) (.node (o141v143 P) .nil .nil) .nil) (.node (o109v109 P) .nil .nil)) (.node (o61v55 P) (.node (o93v91 P) (.node (o157v159 P) .nil .nil) .nil) (.node (o125v127 P) .nil .nil)))))) (.node (o2v34 P) (.node (boot_o_4 P) (.node (boot_o_8 P) (.node (o16v7 P) (.node (o32v23 P) (.node (o64v58 P) (.node (o128v130 P) .nil .nil) .nil) (.node (o96v94 P) (.node (o160v162 P) .nil .nil) .nil)) (.node (o48v42 P) (.node (o80v78 P) (.node (o144v146 P) .nil .nil) .nil) (.node (o112v112 P) .nil .nil))) (.node (o24v15 P) (.node (o40v31 P) (.node (o72v68 P) (.node (o136v138 P) .nil .nil) .nil) (.node (o104v104 P) .nil .nil)) (.node (o56v50 P) (.node (o88v86 P) (.node (o152v154 P) .nil .nil) .nil) (.node (o120v120 P) .nil .nil)))) (.node (o12v123 P) (.node (o20v11 P) (.node (o36v27 P) (.node (o68v64 P) (.node (o132v134 P) .nil .nil) .nil) (.node (o100v98 P) .nil .nil)) (.node (o52v46 P) (.node (o84v82 P) (.node (o148v150 P) .nil .nil) .nil) (.node (o116v116 P) .nil .nil))) (.node (o28v19 P) (.node (o44v38 P) (.node (o76v72 P) (.node (o140v142 P) .nil .nil) .nil) (.node (o108v108 P) .nil .nil)) (.node (o60v54 P) (.node (o92v90 P) (.node (o156v158 P) .nil .nil) .nil) (.node (o124v126 P) .nil .nil))))) (.node (boot_o_6 P) (.node (boot_o_10 P) (.node (o18v9 P) (.node (o34v25 P) (.node (o66v62 P) (.node (o130v132 P) .nil .nil) .nil) (.node (o98v96 P) (.node (o162v164 P) .nil .nil) .nil)) (.node (o50v44 P) (.node (o82v80 P) (.node (o146v148 P) .nil .nil) .nil) (.node (o114v114 P) .nil .nil))) (.node (o26v17 P) (.node (o42v33 P) (.node (o74v70 P) (.node (o138v140 P) .nil .nil) .nil) (.node (o106v106 P) .nil .nil)) (.node (o58v52 P) (.node (o90v88 P) (.node (o154v156 P) .nil .nil) .nil) (.node (o122v124 P) .nil .nil)))) (.node (o14v3 P) (.node (o22v13 P) (.node (o38v29 P) (.node (o70v66 P) (.node (o134v136 P) .nil .nil) .nil) (.node (o102v102 P) .nil .nil)) (.node (o54v48 P) (.node (o86v84 P) (.node (o150v152 P) .nil .nil) .nil) (.node (o118v118 P) .nil .nil))) (.node (o30v21 P) (.node (o46v40 P) (.node (o78v74 P) (.node (o142v144 P) .nil .nil) .nil) (.node (o110v110 P) .nil .nil)) (.node (o62v56 P) (.node (o94v92 P) (.node (o158v160 P) .nil .nil) .nil) (.node (o126v128 P) .nil .nil)))))))
noncomputable def o3v166 (P : Params) : Obj := ⟨.type "dict", none, .dict (List.toArray [⟨PyData.keyHash P (Str.ofString "__name__"), .str (Str.ofString "__name__") 165, .str (Str.ofString "snobol.hosts") 438⟩, ⟨PyData.keyHash P (Str.ofString "__doc__"), .str (Str.ofString "__doc__") 166, .none⟩, ⟨PyData.keyHash P (Str.ofString "__package__"), .str (Str.ofString "__package__") 167, .none⟩, ⟨PyData.keyHash P (Str.ofString "__loader__"), .str (Str.ofString "__loader__") 168, .builtin "__main__.__loader__#opaque"⟩, ⟨PyData.keyHash P (Str.ofString "__spec__"), .str (Str.ofString "__spec__") 169, .none⟩, ⟨PyData.keyHash P (Str.ofString "__annotations__"), .str (Str.ofString "__annotations__") 170, .ref 6⟩, ⟨PyData.keyHash P (Str.ofString "__builtins__"), .str (Str.ofString "__builtins__") 171, .ref 4⟩, ⟨PyData.keyHash P (Str.ofString "__file__"), .str (Str.ofString "__file__") 173, .str (Str.ofString "/claim/cut.py") 172⟩, ⟨PyData.keyHash P (Str.ofString "__cached__"), .str (Str.ofString "__cached__") 174, .none⟩, ⟨PyData.keyHash P (Str.ofString "give_names"), .str (Str.ofString "give_names") 198, .ref 21⟩, ⟨PyData.keyHash P (Str.ofString "three_pieces"), .str (Str.ofString "three_pieces") 206, .ref 28⟩, ⟨PyData.keyHash P (Str.ofString "spliced"), .str (Str.ofString "spliced") 218, .ref 35⟩, ⟨PyData.keyHash P (Str.ofString "replace_once"), .str (Str.ofString "replace_once") 232, .ref 42⟩, ⟨PyData.keyHash P (Str.ofString "SnobolError"), .str (Str.ofString "SnobolError") 268, .ref 62⟩, ⟨PyData.keyHash P (Str.ofString "Failure"), .str (Str.ofString "Failure") 288, .ref 75⟩, ⟨PyData.keyHash P (Str.ofString "Pattern"), .str (Str.ofString "Pattern") 317, .ref 96⟩, ⟨PyData.keyHash P (Str.ofString "Delayed"), .str (Str.ofString "Delayed") 346, .ref 117⟩, ⟨PyData.keyHash P (Str.ofString "NameRef"), .str (Str.ofString "NameRef") 379, .ref 138⟩, ⟨PyData.keyHash P (Str.ofString "is_fail"), .str (Str.ofString "is_fail") 386, .ref 149⟩, ⟨PyData.keyHash P (Str.ofString "fits"), .str (Str.ofString "fits") 394, .ref 156⟩, ⟨PyData.keyHash P (Str.ofString "whole_of_text"), .str (Str.ofString "whole_of_text") 405, .ref 163⟩, ⟨PyData.keyHash P (Str.ofString "text_of_whole"), .str (Str.ofString "text_of_whole") 414, .ref 170⟩, ⟨PyData.keyHash P (Str.ofString "to_whole"), .str (Str.ofString "to_whole") 422, .ref 177⟩, ⟨PyData.keyHash P (Str.ofString "to_text"), .str (Str.ofString "to_text") 429, .ref 184⟩, ⟨PyData.keyHash P (Str.ofString "need_text"), .str (Str.ofString "need_text") 437, .ref 191⟩]) 25, (List.toArray [])⟩
noncomputable def o12v167 (P : Params) : Obj := ⟨.none, none, .fields (List.toArray [.int (2) 0, .int (0) 0, .ref 20, .int (5) 0, .int (0) 0, .ref 27, .int (7) 0, .int (0) 0, .ref 34, .int (10) 0, .int (0) 0, .ref 41, .int (18) 0, .int (0) 0, .ref 49, .int (24) 0, .int (0) 0, .ref 71, .int (26) 0, .int (0) 0, .ref 85, .int (30) 0, .int (0) 0, .ref 106, .int (34) 0, .int (0) 0, .ref 127, .int (40) 0, .int (0) 0, .ref 148, .int (42) 0, .int (0) 0, .ref 155, .int (44) 0, .int (0) 0, .ref 162, .int (57) 0, .int (0) 0, .ref 169, .int (63) 0, .int (0) 0, .ref 176, .int (67) 0, .int (0) 0, .ref 183, .int (71) 0, .int (0) 0, .ref 190]), (List.toArray [])⟩
noncomputable def o164v168 (P : Params) : Obj := ⟨.type "tuple", none, .seq (List.toArray []) 0, (List.toArray [])⟩
noncomputable def o165v169 (P : Params) : Obj := ⟨.none, none, .fields (List.toArray []), (List.toArray [])⟩
noncomputable def o166v170 (P : Params) : Obj := ⟨.type "tuple", none, .seq (List.toArray [.str (Str.ofString "number") 409, .str (Str.ofString "left") 410, .str (Str.ofString "found") 411]) 0, (List.toArray [])⟩
noncomputable def o167v171 (P : Params) : Obj := ⟨.type "tuple", none, .seq (List.toArray []) 0, (List.toArray [])⟩
noncomputable def o168v172 (P : Params) : Obj := ⟨.none, none, .func { name := (Str.ofString "text_of_whole"), qualname := (Str.ofString "text_of_whole"), params := parOf (stAt 14), body := .stmts (bodOf (stAt 14)), scope := scoOf (stAt 14), globals := 0, closure := [], defaults := .none, kwdefaults := .none, doc := .none, pyModule := .none, annotations := none, code := .none, closureTuple := .none, builtins := 0 }, (List.toArray [])⟩
noncomputable def o169v173 (P : Params) : Obj := ⟨.type "code", none, .fields (List.toArray [.str (Str.ofString "text_of_whole") 406, .str (Str.ofString "text_of_whole") 407, .str (Str.ofString "/claim/cut.py") 408, .int (57) 0, .int (1) 0, .int (0) 0, .int (0) 0, .int (3) 0, .ref 164, .bool true, .int (181) 0, .ref 165, .none, .ref 166, .ref 167, .ref 168, .int (412) 0, .int (57) 0, .str (Str.ofString "/claim/cut.py") 413]), (List.toArray [])⟩
noncomputable def o170v174 (P : Params) : Obj := ⟨.type "function", none, .func { name := (Str.ofString "text_of_whole"), qualname := (Str.ofString "text_of_whole"), params := parOf (stAt 14), body := .stmts (bodOf (stAt 14)), scope := scoOf (stAt 14), globals := 3, closure := [], defaults := .none, kwdefaults := .none, doc := .none, pyModule := .str (Str.ofString "snobol.values") 233, annotations := none, code := .ref 169, closureTuple := .none, builtins := 0 }, (List.toArray [])⟩
noncomputable def o171v175 (P : Params) : Obj := ⟨.type "tuple", none, .seq (List.toArray []) 0, (List.toArray [])⟩
noncomputable def o172v176 (P : Params) : Obj := ⟨.none, none, .fields (List.toArray []), (List.toArray [])⟩
noncomputable def o173v177 (P : Params) : Obj := ⟨.type "tuple", none, .seq (List.toArray [.str (Str.ofString "value") 418, .str (Str.ofString "width") 419]) 0, (List.toArray [])⟩
noncomputable def o174v178 (P : Params) : Obj := ⟨.type "tuple", none, .seq (List.toArray []) 0, (List.toArray [])⟩
noncomputable def o175v179 (P : Params) : Obj := ⟨.none, none, .func { name := (Str.ofString "to_whole"), qualname := (Str.ofString "to_whole"), params := parOf (stAt 15), body := .stmts (bodOf (stAt 15)), scope := scoOf (stAt 15), globals := 0, closure := [], defaults := .none, kwdefaults := .none, doc := .none, pyModule := .none, annotations := none, code := .none, closureTuple := .none, builtins := 0 }, (List.toArray [])⟩
noncomputable def o176v180 (P : Params) : Obj := ⟨.type "code", none, .fields (List.toArray [.str (Str.ofString "to_whole") 415, .str (Str.ofString "to_whole") 416, .str (Str.ofString "/claim/cut.py") 417, .int (63) 0, .int (2) 0, .int (0) 0, .int (0) 0, .int (3) 0, .ref 171, .bool true, .int (181) 0, .ref 172, .none, .ref 173, .ref 174, .ref 175, .int (420) 0, .int (63) 0, .str (Str.ofString "/claim/cut.py") 421]), (List.toArray [])⟩
noncomputable def o177v181 (P : Params) : Obj := ⟨.type "function", none, .func { name := (Str.ofString "to_whole"), qualname := (Str.ofString "to_whole"), params := parOf (stAt 15), body := .stmts (bodOf (stAt 15)), scope := scoOf (stAt 15), globals := 3, closure := [], defaults := .none, kwdefaults := .none, doc := .none, pyModule := .str (Str.ofString "snobol.values") 233, annotations := none, code := .ref 176, closureTuple := .none, builtins := 0 }, (List.toArray [])⟩
noncomputable def o178v182 (P : Params) : Obj := ⟨.type "tuple", none, .seq (List.toArray []) 0, (List.toArray [])⟩
noncomputable def o179v183 (P : Params) : Obj := ⟨.none, none, .fields (List.toArray []), (List.toArray [])⟩
noncomputable def o180v184 (P : Params) : Obj := ⟨.type "tuple", none, .seq (List.toArray [.str (Str.ofString "value") 426]) 0, (List.toArray [])⟩
noncomputable def o181v185 (P : Params) : Obj := ⟨.type "tuple", none, .seq (List.toArray []) 0, (List.toArray [])⟩
noncomputable def o182v186 (P : Params) : Obj := ⟨.none, none, .func { name := (Str.ofString "to_text"), qualname := (Str.ofString "to_text"), params := parOf (stAt 16), body := .stmts (bodOf (stAt 16)), scope := scoOf (stAt 16), globals := 0, closure := [], defaults := .none, kwdefaults := .none, doc := .none, pyModule := .none, annotations := none, code := .none, closureTuple := .none, builtins := 0 }, (List.toArray [])⟩
noncomputable def o183v187 (P : Params) : Obj := ⟨.type "code", none, .fields (List.toArray [.str (Str.ofString "to_text") 423, .str (Str.ofString "to_text") 424, .str (Str.ofString "/claim/cut.py") 425, .int (67) 0, .int (1) 0, .int (0) 0, .int (0) 0, .int (3) 0, .ref 178, .bool true, .int (181) 0, .ref 179, .none, .ref 180, .ref 181, .ref 182, .int (427) 0, .int (67) 0, .str (Str.ofString "/claim/cut.py") 428]), (List.toArray [])⟩
noncomputable def o184v188 (P : Params) : Obj := ⟨.type "function", none, .func { name := (Str.ofString "to_text"), qualname := (Str.ofString "to_text"), params := parOf (stAt 16), body := .stmts (bodOf (stAt 16)), scope := scoOf (stAt 16), globals := 3, closure := [], defaults := .none, kwdefaults := .none, doc := .none, pyModule := .str (Str.ofString "snobol.values") 233, annotations := none, code := .ref 183, closureTuple := .none, builtins := 0 }, (List.toArray [])⟩
noncomputable def o185v189 (P : Params) : Obj := ⟨.type "tuple", none, .seq (List.toArray []) 0, (List.toArray [])⟩
noncomputable def o186v190 (P : Params) : Obj := ⟨.none, none, .fields (List.toArray []), (List.toArray [])⟩
noncomputable def o187v191 (P : Params) : Obj := ⟨.type "tuple", none, .seq (List.toArray [.str (Str.ofString "value") 433, .str (Str.ofString "text") 434]) 0, (List.toArray [])⟩
noncomputable def o188v192 (P : Params) : Obj := ⟨.type "tuple", none, .seq (List.toArray []) 0, (List.toArray [])⟩
noncomputable def o189v193 (P : Params) : Obj := ⟨.none, none, .func { name := (Str.ofString "need_text"), qualname := (Str.ofString "need_text"), params := parOf (stAt 17), body := .stmts (bodOf (stAt 17)), scope := scoOf (stAt 17), globals := 0, closure := [], defaults := .none, kwdefaults := .none, doc := .none, pyModule := .none, annotations := none, code := .none, closureTuple := .none, builtins := 0 }, (List.toArray [])⟩
noncomputable def o190v194 (P : Params) : Obj := ⟨.type "code", none, .fields (List.toArray [.str (Str.ofString "need_text") 430, .str (Str.ofString "need_text") 431, .str (Str.ofString "/claim/cut.py") 432, .int (71) 0, .int (1) 0, .int (0) 0, .int (0) 0, .int (3) 0, .ref 185, .bool true, .int (181) 0, .ref 186, .none, .ref 187, .ref 188, .ref 189, .int (435) 0, .int (71) 0, .str (Str.ofString "/claim/cut.py") 436]), (List.toArray [])⟩
noncomputable def o191v195 (P : Params) : Obj := ⟨.type "function", none, .func { name := (Str.ofString "need_text"), qualname := (Str.ofString "need_text"), params := parOf (stAt 17), body := .stmts (bodOf (stAt 17)), scope := scoOf (stAt 17), globals := 3, closure := [], defaults := .none, kwdefaults := .none, doc := .none, pyModule := .str (Str.ofString "snobol.values") 233, annotations := none, code := .ref 190, closureTuple := .none, builtins := 0 }, (List.toArray [])⟩
noncomputable def T7 (P : Params) : BT := (.node (boot_o_0 P) (.node (boot_o_1 P) (.node (o3v166 P) (.node (boot_o_7 P) (.node (o15v6 P) (.node (o31v22 P) (.node (o63v57 P) (.node (o127v129 P) .nil .nil) (.node (o191v195 P) .nil .nil)) (.node (o95v93 P) (.node (o159v161 P) .nil .nil) .nil)) (.node (o47v41 P) (.node (o79v75 P) (.node (o143v145 P) .nil .nil) .nil) (.node (o111v111 P) (.node (o175v179 P) .nil .nil) .nil))) (.node (o23v14 P) (.node (o39v30 P) (.node (o71v67 P) (.node (o135v137 P) .nil .nil) .nil) (.node (o103v103 P) (.node (o167v171 P) .nil .nil) .nil)) (.node (o55v49 P) (.node (o87v85 P) (.node (o151v153 P) .nil .nil) .nil) (.node (o119v119 P) (.node (o183v187 P) .nil .nil) .nil)))) (.node (o11v0 P) (.node (o19v10 P) (.node (o35v26 P) (.node (o67v63 P) (.node (o131v133 P) .nil .nil) .nil) (.node (o99v97 P) (.node (o163v165 P) .nil .nil) .nil)) (.node (o51v45 P) (.node (o83v81 P) (.node (o147v149 P) .nil .nil) .nil) (.node (o115v115 P) (.node (o179v183 P) .nil .nil) .nil))) (.node (o27v18 P) (.node (o43v37 P) (.node (o75v71 P) (.node (o139v141 P) .nil .nil) .nil) (.node (o107v107 P) (.node (o171v175 P) .nil .nil) .nil)) (.node (o59v53 P) (.node (o91v89 P) (.node (o155v157 P) .nil .nil) .nil) (.node (o123v125 P) (.node (o187v191 P) .nil .nil) .nil))))) (.node (boot_o_5 P) (.node (boot_o_9 P) (.node (o17v8 P) (.node (o33v24 P) (.node (o65v59 P) (.node (o129v131 P) .nil .nil) .nil) (.node (o97v95 P) (.node (o161v163 P) .nil .nil) .nil)) (.node (o49v43 P) (.node (o81v79 P) (.node (o145v147 P) .nil .nil) .nil) (.node (o113v113 P) (.node (o177v181 P) .nil .nil) .nil))) (.node (o25v16 P) (.node (o41v32 P) (.node (o73v69 P) (.node (o137v139 P) .nil .nil) .nil) (.node (o105v105 P) (.node (o169v173 P) .nil .nil) .nil)) (.node (o57v51 P) (.node (o89v87 P) (.node (o153v155 P) .nil .nil) .nil) (.node (o121v121 P) (.node (o185v189 P) .nil .nil) .nil)))) (.node (o13v2 P) (.node (o21v12 P) (.node (o37v28 P) (.node (o69v65 P) (.node (o133v135 P) .nil .nil) .nil) (.node (o101v101 P) (.node (o165v169 P) .nil .nil) .nil)) (.node (o53v47 P) (.node (o85v83 P) (.node (o149v151 P) .nil .nil) .nil) (.node (o117v117 P) (.node (o181v185 P) .nil .nil) .nil))) (.node (o29v20 P) (.node (o45v39 P) (.node (o77v73 P) (.node (o141v143 P) .nil .nil) .nil) (.node (o109v109 P) (.node (o173v177 P) .nil .nil) .nil)) (.node (o61v55 P) (.node (o93v91 P) (.node (o157v159 P) .nil .nil) .nil) (.node (o125v127 P) (.node (o189v193 P) .nil .nil) .nil)))))) (.node (o2v34 P) (.node (boot_o_4 P) (.node (boot_o_8 P) (.node (o16v7 P) (.node (o32v23 P) (.node (o64v58 P) (.node (o128v130 P) .nil .nil) .nil) (.node (o96v94 P) (.node (o160v162 P) .nil .nil) .nil)) (.node (o48v42 P) (.node (o80v78 P) (.node (o144v146 P) .nil .nil) .nil) (.node (o112v112 P) (.node (o176v180 P) .nil .nil) .nil))) (.node (o24v15 P) (.node (o40v31 P) (.node (o72v68 P) (.node (o136v138 P) .nil .nil) .nil) (.node (o104v104 P) (.node (o168v172 P) .nil .nil) .nil)) (.node (o56v50 P) (.node (o88v86 P) (.node (o152v154 P) .nil .nil) .nil) (.node (o120v120 P) (.node (o184v188 P) .nil .nil) .nil)))) (.node (o12v167 P) (.node (o20v11 P) (.node (o36v27 P) (.node (o68v64 P) (.node (o132v134 P) .nil .nil) .nil) (.node (o100v98 P) (.node (o164v168 P) .nil .nil) .nil)) (.node (o52v46 P) (.node (o84v82 P) (.node (o148v150 P) .nil .nil) .nil) (.node (o116v116 P) (.node (o180v184 P) .nil .nil) .nil))) (.node (o28v19 P) (.node (o44v38 P) (.node (o76v72 P) (.node (o140v142 P) .nil .nil) .nil) (.node (o108v108 P) (.node (o172v176 P) .nil .nil) .nil)) (.node (o60v54 P) (.node (o92v90 P) (.node (o156v158 P) .nil .nil) .nil) (.node (o124v126 P) (.node (o188v192 P) .nil .nil) .nil))))) (.node (boot_o_6 P) (.node (boot_o_10 P) (.node (o18v9 P) (.node (o34v25 P) (.node (o66v62 P) (.node (o130v132 P) .nil .nil) .nil) (.node (o98v96 P) (.node (o162v164 P) .nil .nil) .nil)) (.node (o50v44 P) (.node (o82v80 P) (.node (o146v148 P) .nil .nil) .nil) (.node (o114v114 P) (.node (o178v182 P) .nil .nil) .nil))) (.node (o26v17 P) (.node (o42v33 P) (.node (o74v70 P) (.node (o138v140 P) .nil .nil) .nil) (.node (o106v106 P) (.node (o170v174 P) .nil .nil) .nil)) (.node (o58v52 P) (.node (o90v88 P) (.node (o154v156 P) .nil .nil) .nil) (.node (o122v124 P) (.node (o186v190 P) .nil .nil) .nil)))) (.node (o14v3 P) (.node (o22v13 P) (.node (o38v29 P) (.node (o70v66 P) (.node (o134v136 P) .nil .nil) .nil) (.node (o102v102 P) (.node (o166v170 P) .nil .nil) .nil)) (.node (o54v48 P) (.node (o86v84 P) (.node (o150v152 P) .nil .nil) .nil) (.node (o118v118 P) (.node (o182v186 P) .nil .nil) .nil))) (.node (o30v21 P) (.node (o46v40 P) (.node (o78v74 P) (.node (o142v144 P) .nil .nil) .nil) (.node (o110v110 P) (.node (o174v178 P) .nil .nil) .nil)) (.node (o62v56 P) (.node (o94v92 P) (.node (o158v160 P) .nil .nil) .nil) (.node (o126v128 P) (.node (o190v194 P) .nil .nil) .nil)))))))
noncomputable def o3v196 (P : Params) : Obj := ⟨.type "dict", none, .dict (List.toArray [⟨PyData.keyHash P (Str.ofString "__name__"), .str (Str.ofString "__name__") 165, .str (Str.ofString "snobol.hosts") 438⟩, ⟨PyData.keyHash P (Str.ofString "__doc__"), .str (Str.ofString "__doc__") 166, .none⟩, ⟨PyData.keyHash P (Str.ofString "__package__"), .str (Str.ofString "__package__") 167, .none⟩, ⟨PyData.keyHash P (Str.ofString "__loader__"), .str (Str.ofString "__loader__") 168, .builtin "__main__.__loader__#opaque"⟩, ⟨PyData.keyHash P (Str.ofString "__spec__"), .str (Str.ofString "__spec__") 169, .none⟩, ⟨PyData.keyHash P (Str.ofString "__annotations__"), .str (Str.ofString "__annotations__") 170, .ref 6⟩, ⟨PyData.keyHash P (Str.ofString "__builtins__"), .str (Str.ofString "__builtins__") 171, .ref 4⟩, ⟨PyData.keyHash P (Str.ofString "__file__"), .str (Str.ofString "__file__") 173, .str (Str.ofString "/claim/cut.py") 172⟩, ⟨PyData.keyHash P (Str.ofString "__cached__"), .str (Str.ofString "__cached__") 174, .none⟩, ⟨PyData.keyHash P (Str.ofString "give_names"), .str (Str.ofString "give_names") 198, .ref 21⟩, ⟨PyData.keyHash P (Str.ofString "three_pieces"), .str (Str.ofString "three_pieces") 206, .ref 28⟩, ⟨PyData.keyHash P (Str.ofString "spliced"), .str (Str.ofString "spliced") 218, .ref 35⟩, ⟨PyData.keyHash P (Str.ofString "replace_once"), .str (Str.ofString "replace_once") 232, .ref 42⟩, ⟨PyData.keyHash P (Str.ofString "SnobolError"), .str (Str.ofString "SnobolError") 268, .ref 62⟩, ⟨PyData.keyHash P (Str.ofString "Failure"), .str (Str.ofString "Failure") 288, .ref 75⟩, ⟨PyData.keyHash P (Str.ofString "Pattern"), .str (Str.ofString "Pattern") 317, .ref 96⟩, ⟨PyData.keyHash P (Str.ofString "Delayed"), .str (Str.ofString "Delayed") 346, .ref 117⟩, ⟨PyData.keyHash P (Str.ofString "NameRef"), .str (Str.ofString "NameRef") 379, .ref 138⟩, ⟨PyData.keyHash P (Str.ofString "is_fail"), .str (Str.ofString "is_fail") 386, .ref 149⟩, ⟨PyData.keyHash P (Str.ofString "fits"), .str (Str.ofString "fits") 394, .ref 156⟩, ⟨PyData.keyHash P (Str.ofString "whole_of_text"), .str (Str.ofString "whole_of_text") 405, .ref 163⟩, ⟨PyData.keyHash P (Str.ofString "text_of_whole"), .str (Str.ofString "text_of_whole") 414, .ref 170⟩, ⟨PyData.keyHash P (Str.ofString "to_whole"), .str (Str.ofString "to_whole") 422, .ref 177⟩, ⟨PyData.keyHash P (Str.ofString "to_text"), .str (Str.ofString "to_text") 429, .ref 184⟩, ⟨PyData.keyHash P (Str.ofString "need_text"), .str (Str.ofString "need_text") 437, .ref 191⟩, ⟨PyData.keyHash P (Str.ofString "PlainHost"), .str (Str.ofString "PlainHost") 499, .ref 229⟩]) 26, (List.toArray [])⟩
noncomputable def o12v197 (P : Params) : Obj := ⟨.none, none, .fields (List.toArray [.int (2) 0, .int (0) 0, .ref 20, .int (5) 0, .int (0) 0, .ref 27, .int (7) 0, .int (0) 0, .ref 34, .int (10) 0, .int (0) 0, .ref 41, .int (18) 0, .int (0) 0, .ref 49, .int (24) 0, .int (0) 0, .ref 71, .int (26) 0, .int (0) 0, .ref 85, .int (30) 0, .int (0) 0, .ref 106, .int (34) 0, .int (0) 0, .ref 127, .int (40) 0, .int (0) 0, .ref 148, .int (42) 0, .int (0) 0, .ref 155, .int (44) 0, .int (0) 0, .ref 162, .int (57) 0, .int (0) 0, .ref 169, .int (63) 0, .int (0) 0, .ref 176, .int (67) 0, .int (0) 0, .ref 183, .int (71) 0, .int (0) 0, .ref 190, .int (77) 0, .int (0) 0, .ref 197]), (List.toArray [])⟩
noncomputable def o192v198 (P : Params) : Obj := ⟨.type "tuple", none, .seq (List.toArray []) 0, (List.toArray [])⟩
noncomputable def o193v199 (P : Params) : Obj := ⟨.type "builtin_function_or_method", none, .fields (List.toArray [.builtin "type.__prepare__", .type "type"]), (List.toArray [])⟩
noncomputable def o194v200 (P : Params) : Obj := ⟨.type "dict", none, .dict (List.toArray [⟨PyData.keyHash P (Str.ofString "__module__"), .str (Str.ofString "__module__") 447, .str (Str.ofString "snobol.hosts") 438⟩, ⟨PyData.keyHash P (Str.ofString "__qualname__"), .str (Str.ofString "__qualname__") 449, .str (Str.ofString "PlainHost") 448⟩, ⟨PyData.keyHash P (Str.ofString "__firstlineno__"), .str (Str.ofString "__firstlineno__") 451, .int (77) 450⟩, ⟨PyData.keyHash P (Str.ofString "__init__"), .str (Str.ofString "__init__") 461, .ref 205⟩, ⟨PyData.keyHash P (Str.ofString "value_of"), .str (Str.ofString "value_of") 469, .ref 212⟩, ⟨PyData.keyHash P (Str.ofString "assign"), .str (Str.ofString "assign") 478, .ref 219⟩, ⟨PyData.keyHash P (Str.ofString "step"), .str (Str.ofString "step") 485, .ref 226⟩, ⟨PyData.keyHash P (Str.ofString "__static_attributes__"), .str (Str.ofString "__static_attributes__") 492, .ref 227⟩]) 8, (List.toArray [])⟩
noncomputable def o195v201 (P : Params) : Obj := ⟨.type "tuple", none, .seq (List.toArray []) 0, (List.toArray [])⟩
noncomputable def o196v202 (P : Params) : Obj := ⟨.none, none, .fields (List.toArray [.int (79) 0, .int (4) 0, .ref 204, .int (87) 0, .int (4) 0, .ref 211, .int (92) 0, .int (4) 0, .ref 218, .int (99) 0, .int (4) 0, .ref 225]), (List.toArray [])⟩
noncomputable def o197v203 (P : Params) : Obj := ⟨.type "code", none, .fields (List.toArray [.str (Str.ofString "PlainHost") 442, .str (Str.ofString "PlainHost") 443, .str (Str.ofString "/claim/cut.py") 444, .int (77) 0, .int (0) 0, .int (0) 0, .int (0) 0, .int (0) 0, .ref 195, .bool false, .int (181) 0, .ref 196, .none, .none, .none, .none, .int (445) 0, .int (77) 0, .str (Str.ofString "/claim/cut.py") 446]), (List.toArray [])⟩
noncomputable def o198v204 (P : Params) : Obj := ⟨.type "frame", none, .plain, (List.toArray [some (.ref 197), some (.ref 3), some (.ref 194), none, some (.str (Str.ofString "snobol.hosts") 438), none, some (.ref 0)])⟩
noncomputable def o199v205 (P : Params) : Obj := ⟨.type "tuple", none, .seq (List.toArray []) 0, (List.toArray [])⟩
noncomputable def o200v206 (P : Params) : Obj := ⟨.none, none, .fields (List.toArray []), (List.toArray [])⟩
noncomputable def o201v207 (P : Params) : Obj := ⟨.type "tuple", none, .seq (List.toArray [.str (Str.ofString "self") 455, .str (Str.ofString "values") 456, .str (Str.ofString "limit") 457, .str (Str.ofString "refused") 458]) 0, (List.toArray [])⟩
noncomputable def o202v208 (P : Params) : Obj := ⟨.type "tuple", none, .seq (List.toArray []) 0, (List.toArray [])⟩
noncomputable def o203v209 (P : Params) : Obj := ⟨.none, none, .func { name := (Str.ofString "__init__"), qualname := (Str.ofString "PlainHost.__init__"), params := parOf (methAt 19 0), body := .stmts (bodOf (methAt 19 0)), scope := scoOf (methAt 19 0), globals := 0, closure := [], defaults := .none, kwdefaults := .none, doc := .none, pyModule := .none, annotations := none, code := .none, closureTuple := .none, builtins := 0 }, (List.toArray [])⟩
noncomputable def o204v210 (P : Params) : Obj := ⟨.type "code", none, .fields (List.toArray [.str (Str.ofString "__init__") 452, .str (Str.ofString "PlainHost.__init__") 453, .str (Str.ofString "/claim/cut.py") 454, .int (79) 0, .int (4) 0, .int (0) 0, .int (0) 0, .int (3) 0, .ref 199, .bool true, .int (181) 0, .ref 200, .none, .ref 201, .ref 202, .ref 203, .int (459) 0, .int (79) 0, .str (Str.ofString "/claim/cut.py") 460]), (List.toArray [])⟩
noncomputable def o205v211 (P : Params) : Obj := ⟨.type "function", none, .func { name := (Str.ofString "__init__"), qualname := (Str.ofString "PlainHost.__init__"), params := parOf (methAt 19 0), body := .stmts (bodOf (methAt 19 0)), scope := scoOf (methAt 19 0), globals := 3, closure := [], defaults := .none, kwdefaults := .none, doc := .none, pyModule := .str (Str.ofString "snobol.hosts") 438, annotations := none, code := .ref 204, closureTuple := .none, builtins := 0 }, (List.toArray [])⟩
noncomputable def o206v212 (P : Params) : Obj := ⟨.type "tuple", none, .seq (List.toArray []) 0, (List.toArray [])⟩
noncomputable def o207v213 (P : Params) : Obj := ⟨.none, none, .fields (List.toArray []), (List.toArray [])⟩
noncomputable def o208v214 (P : Params) : Obj := ⟨.type "tuple", none, .seq (List.toArray [.str (Str.ofString "self") 465, .str (Str.ofString "tree") 466]) 0, (List.toArray [])⟩
noncomputable def o209v215 (P : Params) : Obj := ⟨.type "tuple", none, .seq (List.toArray []) 0, (List.toArray [])⟩
noncomputable def o210v216 (P : Params) : Obj := ⟨.none, none, .func { name := (Str.ofString "value_of"), qualname := (Str.ofString "PlainHost.value_of"), params := parOf (methAt 19 1), body := .stmts (bodOf (methAt 19 1)), scope := scoOf (methAt 19 1), globals := 0, closure := [], defaults := .none, kwdefaults := .none, doc := .none, pyModule := .none, annotations := none, code := .none, closureTuple := .none, builtins := 0 }, (List.toArray [])⟩
noncomputable def o211v217 (P : Params) : Obj := ⟨.type "code", none, .fields (List.toArray [.str (Str.ofString "value_of") 462, .str (Str.ofString "PlainHost.value_of") 463, .str (Str.ofString "/claim/cut.py") 464, .int (87) 0, .int (2) 0, .int (0) 0, .int (0) 0, .int (3) 0, .ref 206, .bool true, .int (181) 0, .ref 207, .none, .ref 208, .ref 209, .ref 210, .int (467) 0, .int (87) 0, .str (Str.ofString "/claim/cut.py") 468]), (List.toArray [])⟩
noncomputable def o212v218 (P : Params) : Obj := ⟨.type "function", none, .func { name := (Str.ofString "value_of"), qualname := (Str.ofString "PlainHost.value_of"), params := parOf (methAt 19 1), body := .stmts (bodOf (methAt 19 1)), scope := scoOf (methAt 19 1), globals := 3, closure := [], defaults := .none, kwdefaults := .none, doc := .none, pyModule := .str (Str.ofString "snobol.hosts") 438, annotations := none, code := .ref 211, closureTuple := .none, builtins := 0 }, (List.toArray [])⟩
noncomputable def o213v219 (P : Params) : Obj := ⟨.type "tuple", none, .seq (List.toArray []) 0, (List.toArray [])⟩
noncomputable def o214v220 (P : Params) : Obj := ⟨.none, none, .fields (List.toArray []), (List.toArray [])⟩
noncomputable def o215v221 (P : Params) : Obj := ⟨.type "tuple", none, .seq (List.toArray [.str (Str.ofString "self") 473, .str (Str.ofString "ref") 474, .str (Str.ofString "value") 475]) 0, (List.toArray [])⟩
noncomputable def o216v222 (P : Params) : Obj := ⟨.type "tuple", none, .seq (List.toArray []) 0, (List.toArray [])⟩
noncomputable def o217v223 (P : Params) : Obj := ⟨.none, none, .func { name := (Str.ofString "assign"), qualname := (Str.ofString "PlainHost.assign"), params := parOf (methAt 19 2), body := .stmts (bodOf (methAt 19 2)), scope := scoOf (methAt 19 2), globals := 0, closure := [], defaults := .none, kwdefaults := .none, doc := .none, pyModule := .none, annotations := none, code := .none, closureTuple := .none, builtins := 0 }, (List.toArray [])⟩
noncomputable def o218v224 (P : Params) : Obj := ⟨.type "code", none, .fields (List.toArray [.str (Str.ofString "assign") 470, .str (Str.ofString "PlainHost.assign") 471, .str (Str.ofString "/claim/cut.py") 472, .int (92) 0, .int (3) 0, .int (0) 0, .int (0) 0, .int (3) 0, .ref 213, .bool true, .int (181) 0, .ref 214, .none, .ref 215, .ref 216, .ref 217, .int (476) 0, .int (92) 0, .str (Str.ofString "/claim/cut.py") 477]), (List.toArray [])⟩
noncomputable def o219v225 (P : Params) : Obj := ⟨.type "function", none, .func { name := (Str.ofString "assign"), qualname := (Str.ofString "PlainHost.assign"), params := parOf (methAt 19 2), body := .stmts (bodOf (methAt 19 2)), scope := scoOf (methAt 19 2), globals := 3, closure := [], defaults := .none, kwdefaults := .none, doc := .none, pyModule := .str (Str.ofString "snobol.hosts") 438, annotations := none, code := .ref 218, closureTuple := .none, builtins := 0 }, (List.toArray [])⟩
noncomputable def o220v226 (P : Params) : Obj := ⟨.type "tuple", none, .seq (List.toArray []) 0, (List.toArray [])⟩
noncomputable def o221v227 (P : Params) : Obj := ⟨.none, none, .fields (List.toArray []), (List.toArray [])⟩
noncomputable def o222v228 (P : Params) : Obj := ⟨.type "tuple", none, .seq (List.toArray [.str (Str.ofString "self") 482]) 0, (List.toArray [])⟩
noncomputable def o223v229 (P : Params) : Obj := ⟨.type "tuple", none, .seq (List.toArray []) 0, (List.toArray [])⟩
noncomputable def o224v230 (P : Params) : Obj := ⟨.none, none, .func { name := (Str.ofString "step"), qualname := (Str.ofString "PlainHost.step"), params := parOf (methAt 19 3), body := .stmts (bodOf (methAt 19 3)), scope := scoOf (methAt 19 3), globals := 0, closure := [], defaults := .none, kwdefaults := .none, doc := .none, pyModule := .none, annotations := none, code := .none, closureTuple := .none, builtins := 0 }, (List.toArray [])⟩
noncomputable def o225v231 (P : Params) : Obj := ⟨.type "code", none, .fields (List.toArray [.str (Str.ofString "step") 479, .str (Str.ofString "PlainHost.step") 480, .str (Str.ofString "/claim/cut.py") 481, .int (99) 0, .int (1) 0, .int (0) 0, .int (0) 0, .int (3) 0, .ref 220, .bool true, .int (181) 0, .ref 221, .none, .ref 222, .ref 223, .ref 224, .int (483) 0, .int (99) 0, .str (Str.ofString "/claim/cut.py") 484]), (List.toArray [])⟩
noncomputable def o226v232 (P : Params) : Obj := ⟨.type "function", none, .func { name := (Str.ofString "step"), qualname := (Str.ofString "PlainHost.step"), params := parOf (methAt 19 3), body := .stmts (bodOf (methAt 19 3)), scope := scoOf (methAt 19 3), globals := 3, closure := [], defaults := .none, kwdefaults := .none, doc := .none, pyModule := .str (Str.ofString "snobol.hosts") 438, annotations := none, code := .ref 225, closureTuple := .none, builtins := 0 }, (List.toArray [])⟩
noncomputable def o227v233 (P : Params) : Obj := ⟨.type "tuple", none, .seq (List.toArray [.str (Str.ofString "limit") 486, .str (Str.ofString "log") 487, .str (Str.ofString "refused") 488, .str (Str.ofString "steps") 489, .str (Str.ofString "values") 490, .str (Str.ofString "width") 491]) 0, (List.toArray [])⟩
noncomputable def o228v234 (P : Params) : Obj := ⟨.type "dict", none, .dict (List.toArray [⟨PyData.keyHash P (Str.ofString "__module__"), .str (Str.ofString "__module__") 447, .str (Str.ofString "snobol.hosts") 438⟩, ⟨PyData.keyHash P (Str.ofString "__firstlineno__"), .str (Str.ofString "__firstlineno__") 451, .int (77) 450⟩, ⟨PyData.keyHash P (Str.ofString "__init__"), .str (Str.ofString "__init__") 461, .ref 205⟩, ⟨PyData.keyHash P (Str.ofString "value_of"), .str (Str.ofString "value_of") 469, .ref 212⟩, ⟨PyData.keyHash P (Str.ofString "assign"), .str (Str.ofString "assign") 478, .ref 219⟩, ⟨PyData.keyHash P (Str.ofString "step"), .str (Str.ofString "step") 485, .ref 226⟩, ⟨PyData.keyHash P (Str.ofString "__static_attributes__"), .str (Str.ofString "__static_attributes__") 492, .ref 227⟩, ⟨PyData.keyHash P (Str.ofString "__dict__"), .str (Str.ofString "__dict__") 494, .ref 230⟩, ⟨PyData.keyHash P (Str.ofString "__weakref__"), .str (Str.ofString "__weakref__") 496, .ref 231⟩, ⟨PyData.keyHash P (Str.ofString "__doc__"), .str (Str.ofString "__doc__") 497, .none⟩]) 4, (List.toArray [])⟩
noncomputable def o229v235 (P : Params) : Obj := ⟨.type "type", none, .cls { name := (Str.ofString "PlainHost"), bases := [.type "object"], mro := [.ref 229, .type "object"], ns := 228, qualname := (Str.ofString "PlainHost"), hasDict := true, slotNames := [], subclasses := [], abstract := false, collection := none, hasDel := false }, (List.toArray [none, none, some (.str (Str.ofString "PlainHost") 440), some (.str (Str.ofString "PlainHost") 448), some (.builtin "object.__new__"), some (.bool true)])⟩
noncomputable def o230v236 (P : Params) : Obj := ⟨.type "getset_descriptor", none, .fields (List.toArray [.str (Str.ofString "__dict__") 493, .ref 229, .builtin "function.__dict__", .builtin "function.__dict__#set"]), (List.toArray [])⟩
noncomputable def o231v237 (P : Params) : Obj := ⟨.type "getset_descriptor", none, .fields (List.toArray [.str (Str.ofString "__weakref__") 495, .ref 229, .builtin "ExceptionGroup.__weakref__", .none]), (List.toArray [])⟩
noncomputable def o232v238 (P : Params) : Obj := ⟨.type "super", none, .fields (List.toArray [.ref 229, .ref 229, .ref 229]), (List.toArray [])⟩
noncomputable def o233v239 (P : Params) : Obj := ⟨.type "builtin_function_or_method", none, .fields (List.toArray [.builtin "object.__init_subclass__", .ref 229]), (List.toArray [])⟩
noncomputable def T8 (P : Params) : BT := (.node (boot_o_0 P) (.node (boot_o_1 P) (.node (o3v196 P) (.node (boot_o_7 P) (.node (o15v6 P) (.node (o31v22 P) (.node (o63v57 P) (.node (o127v129 P) .nil .nil) (.node (o191v195 P) .nil .nil)) (.node (o95v93 P) (.node (o159v161 P) .nil .nil) (.node (o223v229 P) .nil .nil))) (.node (o47v41 P) (.node (o79v75 P) (.node (o143v145 P) .nil .nil) (.node (o207v213 P) .nil .nil)) (.node (o111v111 P) (.node (o175v179 P) .nil .nil) .nil))) (.node (o23v14 P) (.node (o39v30 P) (.node (o71v67 P) (.node (o135v137 P) .nil .nil) (.node (o199v205 P) .nil .nil)) (.node (o103v103 P) (.node (o167v171 P) .nil .nil) (.node (o231v237 P) .nil .nil))) (.node (o55v49 P) (.node (o87v85 P) (.node (o151v153 P) .nil .nil) (.node (o215v221 P) .nil .nil)) (.node (o119v119 P) (.node (o183v187 P) .nil .nil) .nil)))) (.node (o11v0 P) (.node (o19v10 P) (.node (o35v26 P) (.node (o67v63 P) (.node (o131v133 P) .nil .nil) (.node (o195v201 P) .nil .nil)) (.node (o99v97 P) (.node (o163v165 P) .nil .nil) (.node (o227v233 P) .nil .nil))) (.node (o51v45 P) (.node (o83v81 P) (.node (o147v149 P) .nil .nil) (.node (o211v217 P) .nil .nil)) (.node (o115v115 P) (.node (o179v183 P) .nil .nil) .nil))) (.node (o27v18 P) (.node (o43v37 P) (.node (o75v71 P) (.node (o139v141 P) .nil .nil) (.node (o203v209 P) .nil .nil)) (.node (o107v107 P) (.node (o171v175 P) .nil .nil) .nil)) (.node (o59v53 P) (.node (o91v89 P) (.node (o155v157 P) .nil .nil) (.node (o219v225 P) .nil .nil)) (.node (o123v125 P) (.node (o187v191 P) .nil .nil) .nil))))) (.node (boot_o_5 P) (.node (boot_o_9 P) (.node (o17v8 P) (.node (o33v24 P) (.node (o65v59 P) (.node (o129v131 P) .nil .nil) (.node (o193v199 P) .nil .nil)) (.node (o97v95 P) (.node (o161v163 P) .nil .nil) (.node (o225v231 P) .nil .nil))) (.node (o49v43 P) (.node (o81v79 P) (.node (o145v147 P) .nil .nil) (.node (o209v215 P) .nil .nil)) (.node (o113v113 P) (.node (o177v181 P) .nil .nil) .nil))) (.node (o25v16 P) (.node (o41v32 P) (.node (o73v69 P) (.node (o137v139 P) .nil .nil) (.node (o201v207 P) .nil .nil)) (.node (o105v105 P) (.node (o169v173 P) .nil .nil) (.node (o233v239 P) .nil .nil))) (.node (o57v51 P) (.node (o89v87 P) (.node (o153v155 P) .nil .nil) (.node (o217v223 P) .nil .nil)) (.node (o121v121 P) (.node (o185v189 P) .nil .nil) .nil)))) (.node (o13v2 P) (.node (o21v12 P) (.node (o37v28 P) (.node (o69v65 P) (.node (o133v135 P) .nil .nil) (.node (o197v203 P) .nil .nil)) (.node (o101v101 P) (.node (o165v169 P) .nil .nil) (.node (o229v235 P) .nil .nil))) (.node (o53v47 P) (.node (o85v83 P) (.node (o149v151 P) .nil .nil) (.node (o213v219 P) .nil .nil)) (.node (o117v117 P) (.node (o181v185 P) .nil .nil) .nil))) (.node (o29v20 P) (.node (o45v39 P) (.node (o77v73 P) (.node (o141v143 P) .nil .nil) (.node (o205v211 P) .nil .nil)) (.node (o109v109 P) (.node (o173v177 P) .nil .nil) .nil)) (.node (o61v55 P) (.node (o93v91 P) (.node (o157v159 P) .nil .nil) (.node (o221v227 P) .nil .nil)) (.node (o125v127 P) (.node (o189v193 P) .nil .nil) .nil)))))) (.node (o2v34 P) (.node (boot_o_4 P) (.node (boot_o_8 P) (.node (o16v7 P) (.node (o32v23 P) (.node (o64v58 P) (.node (o128v130 P) .nil .nil) (.node (o192v198 P) .nil .nil)) (.node (o96v94 P) (.node (o160v162 P) .nil .nil) (.node (o224v230 P) .nil .nil))) (.node (o48v42 P) (.node (o80v78 P) (.node (o144v146 P) .nil .nil) (.node (o208v214 P) .nil .nil)) (.node (o112v112 P) (.node (o176v180 P) .nil .nil) .nil))) (.node (o24v15 P) (.node (o40v31 P) (.node (o72v68 P) (.node (o136v138 P) .nil .nil) (.node (o200v206 P) .nil .nil)) (.node (o104v104 P) (.node (o168v172 P) .nil .nil) (.node (o232v238 P) .nil .nil))) (.node (o56v50 P) (.node (o88v86 P) (.node (o152v154 P) .nil .nil) (.node (o216v222 P) .nil .nil)) (.node (o120v120 P) (.node (o184v188 P) .nil .nil) .nil)))) (.node (o12v197 P) (.node (o20v11 P) (.node (o36v27 P) (.node (o68v64 P) (.node (o132v134 P) .nil .nil) (.node (o196v202 P) .nil .nil)) (.node (o100v98 P) (.node (o164v168 P) .nil .nil) (.node (o228v234 P) .nil .nil))) (.node (o52v46 P) (.node (o84v82 P) (.node (o148v150 P) .nil .nil) (.node (o212v218 P) .nil .nil)) (.node (o116v116 P) (.node (o180v184 P) .nil .nil) .nil))) (.node (o28v19 P) (.node (o44v38 P) (.node (o76v72 P) (.node (o140v142 P) .nil .nil) (.node (o204v210 P) .nil .nil)) (.node (o108v108 P) (.node (o172v176 P) .nil .nil) .nil)) (.node (o60v54 P) (.node (o92v90 P) (.node (o156v158 P) .nil .nil) (.node (o220v226 P) .nil .nil)) (.node (o124v126 P) (.node (o188v192 P) .nil .nil) .nil))))) (.node (boot_o_6 P) (.node (boot_o_10 P) (.node (o18v9 P) (.node (o34v25 P) (.node (o66v62 P) (.node (o130v132 P) .nil .nil) (.node (o194v200 P) .nil .nil)) (.node (o98v96 P) (.node (o162v164 P) .nil .nil) (.node (o226v232 P) .nil .nil))) (.node (o50v44 P) (.node (o82v80 P) (.node (o146v148 P) .nil .nil) (.node (o210v216 P) .nil .nil)) (.node (o114v114 P) (.node (o178v182 P) .nil .nil) .nil))) (.node (o26v17 P) (.node (o42v33 P) (.node (o74v70 P) (.node (o138v140 P) .nil .nil) (.node (o202v208 P) .nil .nil)) (.node (o106v106 P) (.node (o170v174 P) .nil .nil) .nil)) (.node (o58v52 P) (.node (o90v88 P) (.node (o154v156 P) .nil .nil) (.node (o218v224 P) .nil .nil)) (.node (o122v124 P) (.node (o186v190 P) .nil .nil) .nil)))) (.node (o14v3 P) (.node (o22v13 P) (.node (o38v29 P) (.node (o70v66 P) (.node (o134v136 P) .nil .nil) (.node (o198v204 P) .nil .nil)) (.node (o102v102 P) (.node (o166v170 P) .nil .nil) (.node (o230v236 P) .nil .nil))) (.node (o54v48 P) (.node (o86v84 P) (.node (o150v152 P) .nil .nil) (.node (o214v220 P) .nil .nil)) (.node (o118v118 P) (.node (o182v186 P) .nil .nil) .nil))) (.node (o30v21 P) (.node (o46v40 P) (.node (o78v74 P) (.node (o142v144 P) .nil .nil) (.node (o206v212 P) .nil .nil)) (.node (o110v110 P) (.node (o174v178 P) .nil .nil) .nil)) (.node (o62v56 P) (.node (o94v92 P) (.node (o158v160 P) .nil .nil) (.node (o222v228 P) .nil .nil)) (.node (o126v128 P) (.node (o190v194 P) .nil .nil) .nil)))))))
noncomputable def o3v240 (P : Params) : Obj := ⟨.type "dict", none, .dict (List.toArray [⟨PyData.keyHash P (Str.ofString "__name__"), .str (Str.ofString "__name__") 165, .str (Str.ofString "snobol.primitives") 500⟩, ⟨PyData.keyHash P (Str.ofString "__doc__"), .str (Str.ofString "__doc__") 166, .none⟩, ⟨PyData.keyHash P (Str.ofString "__package__"), .str (Str.ofString "__package__") 167, .none⟩, ⟨PyData.keyHash P (Str.ofString "__loader__"), .str (Str.ofString "__loader__") 168, .builtin "__main__.__loader__#opaque"⟩, ⟨PyData.keyHash P (Str.ofString "__spec__"), .str (Str.ofString "__spec__") 169, .none⟩, ⟨PyData.keyHash P (Str.ofString "__annotations__"), .str (Str.ofString "__annotations__") 170, .ref 6⟩, ⟨PyData.keyHash P (Str.ofString "__builtins__"), .str (Str.ofString "__builtins__") 171, .ref 4⟩, ⟨PyData.keyHash P (Str.ofString "__file__"), .str (Str.ofString "__file__") 173, .str (Str.ofString "/claim/cut.py") 172⟩, ⟨PyData.keyHash P (Str.ofString "__cached__"), .str (Str.ofString "__cached__") 174, .none⟩, ⟨PyData.keyHash P (Str.ofString "give_names"), .str (Str.ofString "give_names") 198, .ref 21⟩, ⟨PyData.keyHash P (Str.ofString "three_pieces"), .str (Str.ofString "three_pieces") 206, .ref 28⟩, ⟨PyData.keyHash P (Str.ofString "spliced"), .str (Str.ofString "spliced") 218, .ref 35⟩, ⟨PyData.keyHash P (Str.ofString "replace_once"), .str (Str.ofString "replace_once") 232, .ref 42⟩, ⟨PyData.keyHash P (Str.ofString "SnobolError"), .str (Str.ofString "SnobolError") 268, .ref 62⟩, ⟨PyData.keyHash P (Str.ofString "Failure"), .str (Str.ofString "Failure") 288, .ref 75⟩, ⟨PyData.keyHash P (Str.ofString "Pattern"), .str (Str.ofString "Pattern") 317, .ref 96⟩, ⟨PyData.keyHash P (Str.ofString "Delayed"), .str (Str.ofString "Delayed") 346, .ref 117⟩, ⟨PyData.keyHash P (Str.ofString "NameRef"), .str (Str.ofString "NameRef") 379, .ref 138⟩, ⟨PyData.keyHash P (Str.ofString "is_fail"), .str (Str.ofString "is_fail") 386, .ref 149⟩, ⟨PyData.keyHash P (Str.ofString "fits"), .str (Str.ofString "fits") 394, .ref 156⟩, ⟨PyData.keyHash P (Str.ofString "whole_of_text"), .str (Str.ofString "whole_of_text") 405, .ref 163⟩, ⟨PyData.keyHash P (Str.ofString "text_of_whole"), .str (Str.ofString "text_of_whole") 414, .ref 170⟩, ⟨PyData.keyHash P (Str.ofString "to_whole"), .str (Str.ofString "to_whole") 422, .ref 177⟩, ⟨PyData.keyHash P (Str.ofString "to_text"), .str (Str.ofString "to_text") 429, .ref 184⟩, ⟨PyData.keyHash P (Str.ofString "need_text"), .str (Str.ofString "need_text") 437, .ref 191⟩, ⟨PyData.keyHash P (Str.ofString "PlainHost"), .str (Str.ofString "PlainHost") 499, .ref 229⟩, ⟨PyData.keyHash P (Str.ofString "OPENING"), .str (Str.ofString "OPENING") 503, .str (Str.ofString "(") 502⟩, ⟨PyData.keyHash P (Str.ofString "CLOSING"), .str (Str.ofString "CLOSING") 505, .str (Str.ofString ")") 504⟩, ⟨PyData.keyHash P (Str.ofString "chars_end"), .str (Str.ofString "chars_end") 515, .ref 240⟩, ⟨PyData.keyHash P (Str.ofString "len_end"), .str (Str.ofString "len_end") 524, .ref 247⟩, ⟨PyData.keyHash P (Str.ofString "pos_end"), .str (Str.ofString "pos_end") 532, .ref 254⟩, ⟨PyData.keyHash P (Str.ofString "rpos_end"), .str (Str.ofString "rpos_end") 541, .ref 261⟩, ⟨PyData.keyHash P (Str.ofString "tab_end"), .str (Str.ofString "tab_end") 550, .ref 268⟩, ⟨PyData.keyHash P (Str.ofString "rtab_end"), .str (Str.ofString "rtab_end") 560, .ref 275⟩, ⟨PyData.keyHash P (Str.ofString "rem_end"), .str (Str.ofString "rem_end") 567, .ref 282⟩, ⟨PyData.keyHash P (Str.ofString "any_at"), .str (Str.ofString "any_at") 576, .ref 289⟩, ⟨PyData.keyHash P (Str.ofString "notany_at"), .str (Str.ofString "notany_at") 585, .ref 296⟩]) 37, (List.toArray [])⟩
noncomputable def o12v241 (P : Params) : Obj := ⟨.none, none, .fields (List.toArray [.int (2) 0, .int (0) 0, .ref 20, .int (5) 0, .int (0) 0, .ref 27, .int (7) 0, .int (0) 0, .ref 34, .int (10) 0, .int (0) 0, .ref 41, .int (18) 0, .int (0) 0, .ref 49, .int (24) 0, .int (0) 0, .ref 71, .int (26) 0, .int (0) 0, .ref 85, .int (30) 0, .int (0) 0, .ref 106, .int (34) 0, .int (0) 0, .ref 127, .int (40) 0, .int (0) 0, .ref 148, .int (42) 0, .int (0) 0, .ref 155, .int (44) 0, .int (0) 0, .ref 162, .int (57) 0, .int (0) 0, .ref 169, .int (63) 0, .int (0) 0, .ref 176, .int (67) 0, .int (0) 0, .ref 183, .int (71) 0, .int (0) 0, .ref 190, .int (77) 0, .int (0) 0, .ref 197, .int (106) 0, .int (0) 0, .ref 239, .int (109) 0, .int (0) 0, .ref 246, .int (111) 0, .int (0) 0, .ref 253, .int (113) 0, .int (0) 0, .ref 260, .int (115) 0, .int (0) 0, .ref 267, .int (117) 0, .int (0) 0, .ref 274, .int (120) 0, .int (0) 0, .ref 281, .int (122) 0, .int (0) 0, .ref 288, .int (124) 0, .int (0) 0, .ref 295]), (List.toArray [])⟩
noncomputable def o234v242 (P : Params) : Obj := ⟨.type "tuple", none, .seq (List.toArray []) 0, (List.toArray [])⟩
noncomputable def o235v243 (P : Params) : Obj := ⟨.none, none, .fields (List.toArray []), (List.toArray [])⟩
noncomputable def o236v244 (P : Params) : Obj := ⟨.type "tuple", none, .seq (List.toArray [.str (Str.ofString "subject") 509, .str (Str.ofString "at") 510, .str (Str.ofString "text") 511, .str (Str.ofString "end") 512]) 0, (List.toArray [])⟩
noncomputable def o237v245 (P : Params) : Obj := ⟨.type "tuple", none, .seq (List.toArray []) 0, (List.toArray [])⟩
noncomputable def o238v246 (P : Params) : Obj := ⟨.none, none, .func { name := (Str.ofString "chars_end"), qualname := (Str.ofString "chars_end"), params := parOf (stAt 23), body := .stmts (bodOf (stAt 23)), scope := scoOf (stAt 23), globals := 0, closure := [], defaults := .none, kwdefaults := .none, doc := .none, pyModule := .none, annotations := none, code := .none, closureTuple := .none, builtins := 0 }, (List.toArray [])⟩
noncomputable def o239v247 (P : Params) : Obj := ⟨.type "code", none, .fields (List.toArray [.str (Str.ofString "chars_end") 506, .str (Str.ofString "chars_end") 507, .str (Str.ofString "/claim/cut.py") 508, .int (106) 0, .int (3) 0, .int (0) 0, .int (0) 0, .int (3) 0, .ref 234, .bool true, .int (181) 0, .ref 235, .none, .ref 236, .ref 237, .ref 238, .int (513) 0, .int (106) 0, .str (Str.ofString "/claim/cut.py") 514]), (List.toArray [])⟩
noncomputable def o240v248 (P : Params) : Obj := ⟨.type "function", none, .func { name := (Str.ofString "chars_end"), qualname := (Str.ofString "chars_end"), params := parOf (stAt 23), body := .stmts (bodOf (stAt 23)), scope := scoOf (stAt 23), globals := 3, closure := [], defaults := .none, kwdefaults := .none, doc := .none, pyModule := .str (Str.ofString "snobol.primitives") 500, annotations := none, code := .ref 239, closureTuple := .none, builtins := 0 }, (List.toArray [])⟩
noncomputable def o241v249 (P : Params) : Obj := ⟨.type "tuple", none, .seq (List.toArray []) 0, (List.toArray [])⟩
noncomputable def o242v250 (P : Params) : Obj := ⟨.none, none, .fields (List.toArray []), (List.toArray [])⟩
noncomputable def o243v251 (P : Params) : Obj := ⟨.type "tuple", none, .seq (List.toArray [.str (Str.ofString "subject") 519, .str (Str.ofString "at") 520, .str (Str.ofString "many") 521]) 0, (List.toArray [])⟩
noncomputable def o244v252 (P : Params) : Obj := ⟨.type "tuple", none, .seq (List.toArray []) 0, (List.toArray [])⟩
noncomputable def o245v253 (P : Params) : Obj := ⟨.none, none, .func { name := (Str.ofString "len_end"), qualname := (Str.ofString "len_end"), params := parOf (stAt 24), body := .stmts (bodOf (stAt 24)), scope := scoOf (stAt 24), globals := 0, closure := [], defaults := .none, kwdefaults := .none, doc := .none, pyModule := .none, annotations := none, code := .none, closureTuple := .none, builtins := 0 }, (List.toArray [])⟩
noncomputable def o246v254 (P : Params) : Obj := ⟨.type "code", none, .fields (List.toArray [.str (Str.ofString "len_end") 516, .str (Str.ofString "len_end") 517, .str (Str.ofString "/claim/cut.py") 518, .int (109) 0, .int (3) 0, .int (0) 0, .int (0) 0, .int (3) 0, .ref 241, .bool true, .int (181) 0, .ref 242, .none, .ref 243, .ref 244, .ref 245, .int (522) 0, .int (109) 0, .str (Str.ofString "/claim/cut.py") 523]), (List.toArray [])⟩
noncomputable def o247v255 (P : Params) : Obj := ⟨.type "function", none, .func { name := (Str.ofString "len_end"), qualname := (Str.ofString "len_end"), params := parOf (stAt 24), body := .stmts (bodOf (stAt 24)), scope := scoOf (stAt 24), globals := 3, closure := [], defaults := .none, kwdefaults := .none, doc := .none, pyModule := .str (Str.ofString "snobol.primitives") 500, annotations := none, code := .ref 246, closureTuple := .none, builtins := 0 }, (List.toArray [])⟩
noncomputable def o248v256 (P : Params) : Obj := ⟨.type "tuple", none, .seq (List.toArray []) 0, (List.toArray [])⟩
noncomputable def o249v257 (P : Params) : Obj := ⟨.none, none, .fields (List.toArray []), (List.toArray [])⟩
noncomputable def o250v258 (P : Params) : Obj := ⟨.type "tuple", none, .seq (List.toArray [.str (Str.ofString "at") 528, .str (Str.ofString "place") 529]) 0, (List.toArray [])⟩
noncomputable def o251v259 (P : Params) : Obj := ⟨.type "tuple", none, .seq (List.toArray []) 0, (List.toArray [])⟩
noncomputable def o252v260 (P : Params) : Obj := ⟨.none, none, .func { name := (Str.ofString "pos_end"), qualname := (Str.ofString "pos_end"), params := parOf (stAt 25), body := .stmts (bodOf (stAt 25)), scope := scoOf (stAt 25), globals := 0, closure := [], defaults := .none, kwdefaults := .none, doc := .none, pyModule := .none, annotations := none, code := .none, closureTuple := .none, builtins := 0 }, (List.toArray [])⟩
noncomputable def o253v261 (P : Params) : Obj := ⟨.type "code", none, .fields (List.toArray [.str (Str.ofString "pos_end") 525, .str (Str.ofString "pos_end") 526, .str (Str.ofString "/claim/cut.py") 527, .int (111) 0, .int (2) 0, .int (0) 0, .int (0) 0, .int (3) 0, .ref 248, .bool true, .int (181) 0, .ref 249, .none, .ref 250, .ref 251, .ref 252, .int (530) 0, .int (111) 0, .str (Str.ofString "/claim/cut.py") 531]), (List.toArray [])⟩
noncomputable def o254v262 (P : Params) : Obj := ⟨.type "function", none, .func { name := (Str.ofString "pos_end"), qualname := (Str.ofString "pos_end"), params := parOf (stAt 25), body := .stmts (bodOf (stAt 25)), scope := scoOf (stAt 25), globals := 3, closure := [], defaults := .none, kwdefaults := .none, doc := .none, pyModule := .str (Str.ofString "snobol.primitives") 500, annotations := none, code := .ref 253, closureTuple := .none, builtins := 0 }, (List.toArray [])⟩
noncomputable def o255v263 (P : Params) : Obj := ⟨.type "tuple", none, .seq (List.toArray []) 0, (List.toArray [])⟩
noncomputable def o256v264 (P : Params) : Obj := ⟨.none, none, .fields (List.toArray []), (List.toArray [])⟩
noncomputable def o257v265 (P : Params) : Obj := ⟨.type "tuple", none, .seq (List.toArray [.str (Str.ofString "subject") 536, .str (Str.ofString "at") 537, .str (Str.ofString "place") 538]) 0, (List.toArray [])⟩
noncomputable def o258v266 (P : Params) : Obj := ⟨.type "tuple", none, .seq (List.toArray []) 0, (List.toArray [])⟩
noncomputable def o259v267 (P : Params) : Obj := ⟨.none, none, .func { name := (Str.ofString "rpos_end"), qualname := (Str.ofString "rpos_end"), params := parOf (stAt 26), body := .stmts (bodOf (stAt 26)), scope := scoOf (stAt 26), globals := 0, closure := [], defaults := .none, kwdefaults := .none, doc := .none, pyModule := .none, annotations := none, code := .none, closureTuple := .none, builtins := 0 }, (List.toArray [])⟩
noncomputable def o260v268 (P : Params) : Obj := ⟨.type "code", none, .fields (List.toArray [.str (Str.ofString "rpos_end") 533, .str (Str.ofString "rpos_end") 534, .str (Str.ofString "/claim/cut.py") 535, .int (113) 0, .int (3) 0, .int (0) 0, .int (0) 0, .int (3) 0, .ref 255, .bool true, .int (181) 0, .ref 256, .none, .ref 257, .ref 258, .ref 259, .int (539) 0, .int (113) 0, .str (Str.ofString "/claim/cut.py") 540]), (List.toArray [])⟩
noncomputable def o261v269 (P : Params) : Obj := ⟨.type "function", none, .func { name := (Str.ofString "rpos_end"), qualname := (Str.ofString "rpos_end"), params := parOf (stAt 26), body := .stmts (bodOf (stAt 26)), scope := scoOf (stAt 26), globals := 3, closure := [], defaults := .none, kwdefaults := .none, doc := .none, pyModule := .str (Str.ofString "snobol.primitives") 500, annotations := none, code := .ref 260, closureTuple := .none, builtins := 0 }, (List.toArray [])⟩
noncomputable def o262v270 (P : Params) : Obj := ⟨.type "tuple", none, .seq (List.toArray []) 0, (List.toArray [])⟩
noncomputable def o263v271 (P : Params) : Obj := ⟨.none, none, .fields (List.toArray []), (List.toArray [])⟩
noncomputable def o264v272 (P : Params) : Obj := ⟨.type "tuple", none, .seq (List.toArray [.str (Str.ofString "subject") 545, .str (Str.ofString "at") 546, .str (Str.ofString "place") 547]) 0, (List.toArray [])⟩
noncomputable def o265v273 (P : Params) : Obj := ⟨.type "tuple", none, .seq (List.toArray []) 0, (List.toArray [])⟩
noncomputable def o266v274 (P : Params) : Obj := ⟨.none, none, .func { name := (Str.ofString "tab_end"), qualname := (Str.ofString "tab_end"), params := parOf (stAt 27), body := .stmts (bodOf (stAt 27)), scope := scoOf (stAt 27), globals := 0, closure := [], defaults := .none, kwdefaults := .none, doc := .none, pyModule := .none, annotations := none, code := .none, closureTuple := .none, builtins := 0 }, (List.toArray [])⟩
noncomputable def o267v275 (P : Params) : Obj := ⟨.type "code", none, .fields (List.toArray [.str (Str.ofString "tab_end") 542, .str (Str.ofString "tab_end") 543, .str (Str.ofString "/claim/cut.py") 544, .int (115) 0, .int (3) 0, .int (0) 0, .int (0) 0, .int (3) 0, .ref 262, .bool true, .int (181) 0, .ref 263, .none, .ref 264, .ref 265, .ref 266, .int (548) 0, .int (115) 0, .str (Str.ofString "/claim/cut.py") 549]), (List.toArray [])⟩
noncomputable def o268v276 (P : Params) : Obj := ⟨.type "function", none, .func { name := (Str.ofString "tab_end"), qualname := (Str.ofString "tab_end"), params := parOf (stAt 27), body := .stmts (bodOf (stAt 27)), scope := scoOf (stAt 27), globals := 3, closure := [], defaults := .none, kwdefaults := .none, doc := .none, pyModule := .str (Str.ofString "snobol.primitives") 500, annotations := none, code := .ref 267, closureTuple := .none, builtins := 0 }, (List.toArray [])⟩
noncomputable def o269v277 (P : Params) : Obj := ⟨.type "tuple", none, .seq (List.toArray []) 0, (List.toArray [])⟩
noncomputable def o270v278 (P : Params) : Obj := ⟨.none, none, .fields (List.toArray []), (List.toArray [])⟩
noncomputable def o271v279 (P : Params) : Obj := ⟨.type "tuple", none, .seq (List.toArray [.str (Str.ofString "subject") 554, .str (Str.ofString "at") 555, .str (Str.ofString "place") 556, .str (Str.ofString "goal") 557]) 0, (List.toArray [])⟩
noncomputable def o272v280 (P : Params) : Obj := ⟨.type "tuple", none, .seq (List.toArray []) 0, (List.toArray [])⟩
noncomputable def o273v281 (P : Params) : Obj := ⟨.none, none, .func { name := (Str.ofString "rtab_end"), qualname := (Str.ofString "rtab_end"), params := parOf (stAt 28), body := .stmts (bodOf (stAt 28)), scope := scoOf (stAt 28), globals := 0, closure := [], defaults := .none, kwdefaults := .none, doc := .none, pyModule := .none, annotations := none, code := .none, closureTuple := .none, builtins := 0 }, (List.toArray [])⟩
noncomputable def o274v282 (P : Params) : Obj := ⟨.type "code", none, .fields (List.toArray [.str (Str.ofString "rtab_end") 551, .str (Str.ofString "rtab_end") 552, .str (Str.ofString "/claim/cut.py") 553, .int (117) 0, .int (3) 0, .int (0) 0, .int (0) 0, .int (3) 0, .ref 269, .bool true, .int (181) 0, .ref 270, .none, .ref 271, .ref 272, .ref 273, .int (558) 0, .int (117) 0, .str (Str.ofString "/claim/cut.py") 559]), (List.toArray [])⟩
noncomputable def o275v283 (P : Params) : Obj := ⟨.type "function", none, .func { name := (Str.ofString "rtab_end"), qualname := (Str.ofString "rtab_end"), params := parOf (stAt 28), body := .stmts (bodOf (stAt 28)), scope := scoOf (stAt 28), globals := 3, closure := [], defaults := .none, kwdefaults := .none, doc := .none, pyModule := .str (Str.ofString "snobol.primitives") 500, annotations := none, code := .ref 274, closureTuple := .none, builtins := 0 }, (List.toArray [])⟩
noncomputable def o276v284 (P : Params) : Obj := ⟨.type "tuple", none, .seq (List.toArray []) 0, (List.toArray [])⟩
noncomputable def o277v285 (P : Params) : Obj := ⟨.none, none, .fields (List.toArray []), (List.toArray [])⟩
noncomputable def o278v286 (P : Params) : Obj := ⟨.type "tuple", none, .seq (List.toArray [.str (Str.ofString "subject") 564]) 0, (List.toArray [])⟩
noncomputable def o279v287 (P : Params) : Obj := ⟨.type "tuple", none, .seq (List.toArray []) 0, (List.toArray [])⟩
noncomputable def o280v288 (P : Params) : Obj := ⟨.none, none, .func { name := (Str.ofString "rem_end"), qualname := (Str.ofString "rem_end"), params := parOf (stAt 29), body := .stmts (bodOf (stAt 29)), scope := scoOf (stAt 29), globals := 0, closure := [], defaults := .none, kwdefaults := .none, doc := .none, pyModule := .none, annotations := none, code := .none, closureTuple := .none, builtins := 0 }, (List.toArray [])⟩
noncomputable def o281v289 (P : Params) : Obj := ⟨.type "code", none, .fields (List.toArray [.str (Str.ofString "rem_end") 561, .str (Str.ofString "rem_end") 562, .str (Str.ofString "/claim/cut.py") 563, .int (120) 0, .int (1) 0, .int (0) 0, .int (0) 0, .int (3) 0, .ref 276, .bool true, .int (181) 0, .ref 277, .none, .ref 278, .ref 279, .ref 280, .int (565) 0, .int (120) 0, .str (Str.ofString "/claim/cut.py") 566]), (List.toArray [])⟩
noncomputable def o282v290 (P : Params) : Obj := ⟨.type "function", none, .func { name := (Str.ofString "rem_end"), qualname := (Str.ofString "rem_end"), params := parOf (stAt 29), body := .stmts (bodOf (stAt 29)), scope := scoOf (stAt 29), globals := 3, closure := [], defaults := .none, kwdefaults := .none, doc := .none, pyModule := .str (Str.ofString "snobol.primitives") 500, annotations := none, code := .ref 281, closureTuple := .none, builtins := 0 }, (List.toArray [])⟩
noncomputable def o283v291 (P : Params) : Obj := ⟨.type "tuple", none, .seq (List.toArray []) 0, (List.toArray [])⟩
noncomputable def o284v292 (P : Params) : Obj := ⟨.none, none, .fields (List.toArray []), (List.toArray [])⟩
noncomputable def o285v293 (P : Params) : Obj := ⟨.type "tuple", none, .seq (List.toArray [.str (Str.ofString "subject") 571, .str (Str.ofString "at") 572, .str (Str.ofString "signs") 573]) 0, (List.toArray [])⟩
noncomputable def o286v294 (P : Params) : Obj := ⟨.type "tuple", none, .seq (List.toArray []) 0, (List.toArray [])⟩
noncomputable def o287v295 (P : Params) : Obj := ⟨.none, none, .func { name := (Str.ofString "any_at"), qualname := (Str.ofString "any_at"), params := parOf (stAt 30), body := .stmts (bodOf (stAt 30)), scope := scoOf (stAt 30), globals := 0, closure := [], defaults := .none, kwdefaults := .none, doc := .none, pyModule := .none, annotations := none, code := .none, closureTuple := .none, builtins := 0 }, (List.toArray [])⟩
noncomputable def o288v296 (P : Params) : Obj := ⟨.type "code", none, .fields (List.toArray [.str (Str.ofString "any_at") 568, .str (Str.ofString "any_at") 569, .str (Str.ofString "/claim/cut.py") 570, .int (122) 0, .int (3) 0, .int (0) 0, .int (0) 0, .int (3) 0, .ref 283, .bool true, .int (181) 0, .ref 284, .none, .ref 285, .ref 286, .ref 287, .int (574) 0, .int (122) 0, .str (Str.ofString "/claim/cut.py") 575]), (List.toArray [])⟩
noncomputable def o289v297 (P : Params) : Obj := ⟨.type "function", none, .func { name := (Str.ofString "any_at"), qualname := (Str.ofString "any_at"), params := parOf (stAt 30), body := .stmts (bodOf (stAt 30)), scope := scoOf (stAt 30), globals := 3, closure := [], defaults := .none, kwdefaults := .none, doc := .none, pyModule := .str (Str.ofString "snobol.primitives") 500, annotations := none, code := .ref 288, closureTuple := .none, builtins := 0 }, (List.toArray [])⟩
noncomputable def o290v298 (P : Params) : Obj := ⟨.type "tuple", none, .seq (List.toArray []) 0, (List.toArray [])⟩
noncomputable def o291v299 (P : Params) : Obj := ⟨.none, none, .fields (List.toArray []), (List.toArray [])⟩
noncomputable def o292v300 (P : Params) : Obj := ⟨.type "tuple", none, .seq (List.toArray [.str (Str.ofString "subject") 580, .str (Str.ofString "at") 581, .str (Str.ofString "signs") 582]) 0, (List.toArray [])⟩
noncomputable def o293v301 (P : Params) : Obj := ⟨.type "tuple", none, .seq (List.toArray []) 0, (List.toArray [])⟩
noncomputable def o294v302 (P : Params) : Obj := ⟨.none, none, .func { name := (Str.ofString "notany_at"), qualname := (Str.ofString "notany_at"), params := parOf (stAt 31), body := .stmts (bodOf (stAt 31)), scope := scoOf (stAt 31), globals := 0, closure := [], defaults := .none, kwdefaults := .none, doc := .none, pyModule := .none, annotations := none, code := .none, closureTuple := .none, builtins := 0 }, (List.toArray [])⟩
noncomputable def o295v303 (P : Params) : Obj := ⟨.type "code", none, .fields (List.toArray [.str (Str.ofString "notany_at") 577, .str (Str.ofString "notany_at") 578, .str (Str.ofString "/claim/cut.py") 579, .int (124) 0, .int (3) 0, .int (0) 0, .int (0) 0, .int (3) 0, .ref 290, .bool true, .int (181) 0, .ref 291, .none, .ref 292, .ref 293, .ref 294, .int (583) 0, .int (124) 0, .str (Str.ofString "/claim/cut.py") 584]), (List.toArray [])⟩
noncomputable def o296v304 (P : Params) : Obj := ⟨.type "function", none, .func { name := (Str.ofString "notany_at"), qualname := (Str.ofString "notany_at"), params := parOf (stAt 31), body := .stmts (bodOf (stAt 31)), scope := scoOf (stAt 31), globals := 3, closure := [], defaults := .none, kwdefaults := .none, doc := .none, pyModule := .str (Str.ofString "snobol.primitives") 500, annotations := none, code := .ref 295, closureTuple := .none, builtins := 0 }, (List.toArray [])⟩
noncomputable def T9 (P : Params) : BT := (.node (boot_o_0 P) (.node (boot_o_1 P) (.node (o3v240 P) (.node (boot_o_7 P) (.node (o15v6 P) (.node (o31v22 P) (.node (o63v57 P) (.node (o127v129 P) (.node (o255v263 P) .nil .nil) .nil) (.node (o191v195 P) .nil .nil)) (.node (o95v93 P) (.node (o159v161 P) (.node (o287v295 P) .nil .nil) .nil) (.node (o223v229 P) .nil .nil))) (.node (o47v41 P) (.node (o79v75 P) (.node (o143v145 P) (.node (o271v279 P) .nil .nil) .nil) (.node (o207v213 P) .nil .nil)) (.node (o111v111 P) (.node (o175v179 P) .nil .nil) (.node (o239v247 P) .nil .nil)))) (.node (o23v14 P) (.node (o39v30 P) (.node (o71v67 P) (.node (o135v137 P) (.node (o263v271 P) .nil .nil) .nil) (.node (o199v205 P) .nil .nil)) (.node (o103v103 P) (.node (o167v171 P) (.node (o295v303 P) .nil .nil) .nil) (.node (o231v237 P) .nil .nil))) (.node (o55v49 P) (.node (o87v85 P) (.node (o151v153 P) (.node (o279v287 P) .nil .nil) .nil) (.node (o215v221 P) .nil .nil)) (.node (o119v119 P) (.node (o183v187 P) .nil .nil) (.node (o247v255 P) .nil .nil))))) (.node (o11v0 P) (.node (o19v10 P) (.node (o35v26 P) (.node (o67v63 P) (.node (o131v133 P) (.node (o259v267 P) .nil .nil) .nil) (.node (o195v201 P) .nil .nil)) (.node (o99v97 P) (.node (o163v165 P) (.node (o291v299 P) .nil .nil) .nil) (.node (o227v233 P) .nil .nil))) (.node (o51v45 P) (.node (o83v81 P) (.node (o147v149 P) (.node (o275v283 P) .nil .nil) .nil) (.node (o211v217 P) .nil .nil)) (.node (o115v115 P) (.node (o179v183 P) .nil .nil) (.node (o243v251 P) .nil .nil)))) (.node (o27v18 P) (.node (o43v37 P) (.node (o75v71 P) (.node (o139v141 P) (.node (o267v275 P) .nil .nil) .nil) (.node (o203v209 P) .nil .nil)) (.node (o107v107 P) (.node (o171v175 P) .nil .nil) (.node (o235v243 P) .nil .nil))) (.node (o59v53 P) (.node (o91v89 P) (.node (o155v157 P) (.node (o283v291 P) .nil .nil) .nil) (.node (o219v225 P) .nil .nil)) (.node (o123v125 P) (.node (o187v191 P) .nil .nil) (.node (o251v259 P) .nil .nil)))))) (.node (boot_o_5 P) (.node (boot_o_9 P) (.node (o17v8 P) (.node (o33v24 P) (.node (o65v59 P) (.node (o129v131 P) (.node (o257v265 P) .nil .nil) .nil) (.node (o193v199 P) .nil .nil)) (.node (o97v95 P) (.node (o161v163 P) (.node (o289v297 P) .nil .nil) .nil) (.node (o225v231 P) .nil .nil))) (.node (o49v43 P) (.node (o81v79 P) (.node (o145v147 P) (.node (o273v281 P) .nil .nil) .nil) (.node (o209v215 P) .nil .nil)) (.node (o113v113 P) (.node (o177v181 P) .nil .nil) (.node (o241v249 P) .nil .nil)))) (.node (o25v16 P) (.node (o41v32 P) (.node (o73v69 P) (.node (o137v139 P) (.node (o265v273 P) .nil .nil) .nil) (.node (o201v207 P) .nil .nil)) (.node (o105v105 P) (.node (o169v173 P) .nil .nil) (.node (o233v239 P) .nil .nil))) (.node (o57v51 P) (.node (o89v87 P) (.node (o153v155 P) (.node (o281v289 P) .nil .nil) .nil) (.node (o217v223 P) .nil .nil)) (.node (o121v121 P) (.node (o185v189 P) .nil .nil) (.node (o249v257 P) .nil .nil))))) (.node (o13v2 P) (.node (o21v12 P) (.node (o37v28 P) (.node (o69v65 P) (.node (o133v135 P) (.node (o261v269 P) .nil .nil) .nil) (.node (o197v203 P) .nil .nil)) (.node (o101v101 P) (.node (o165v169 P) (.node (o293v301 P) .nil .nil) .nil) (.node (o229v235 P) .nil .nil))) (.node (o53v47 P) (.node (o85v83 P) (.node (o149v151 P) (.node (o277v285 P) .nil .nil) .nil) (.node (o213v219 P) .nil .nil)) (.node (o117v117 P) (.node (o181v185 P) .nil .nil) (.node (o245v253 P) .nil .nil)))) (.node (o29v20 P) (.node (o45v39 P) (.node (o77v73 P) (.node (o141v143 P) (.node (o269v277 P) .nil .nil) .nil) (.node (o205v211 P) .nil .nil)) (.node (o109v109 P) (.node (o173v177 P) .nil .nil) (.node (o237v245 P) .nil .nil))) (.node (o61v55 P) (.node (o93v91 P) (.node (o157v159 P) (.node (o285v293 P) .nil .nil) .nil) (.node (o221v227 P) .nil .nil)) (.node (o125v127 P) (.node (o189v193 P) .nil .nil) (.node (o253v261 P) .nil .nil))))))) (.node (o2v34 P) (.node (boot_o_4 P) (.node (boot_o_8 P) (.node (o16v7 P) (.node (o32v23 P) (.node (o64v58 P) (.node (o128v130 P) (.node (o256v264 P) .nil .nil) .nil) (.node (o192v198 P) .nil .nil)) (.node (o96v94 P) (.node (o160v162 P) (.node (o288v296 P) .nil .nil) .nil) (.node (o224v230 P) .nil .nil))) (.node (o48v42 P) (.node (o80v78 P) (.node (o144v146 P) (.node (o272v280 P) .nil .nil) .nil) (.node (o208v214 P) .nil .nil)) (.node (o112v112 P) (.node (o176v180 P) .nil .nil) (.node (o240v248 P) .nil .nil)))) (.node (o24v15 P) (.node (o40v31 P) (.node (o72v68 P) (.node (o136v138 P) (.node (o264v272 P) .nil .nil) .nil) (.node (o200v206 P) .nil .nil)) (.node (o104v104 P) (.node (o168v172 P) (.node (o296v304 P) .nil .nil) .nil) (.node (o232v238 P) .nil .nil))) (.node (o56v50 P) (.node (o88v86 P) (.node (o152v154 P) (.node (o280v288 P) .nil .nil) .nil) (.node (o216v222 P) .nil .nil)) (.node (o120v120 P) (.node (o184v188 P) .nil .nil) (.node (o248v256 P) .nil .nil))))) (.node (o12v241 P) (.node (o20v11 P) (.node (o36v27 P) (.node (o68v64 P) (.node (o132v134 P) (.node (o260v268 P) .nil .nil) .nil) (.node (o196v202 P) .nil .nil)) (.node (o100v98 P) (.node (o164v168 P) (.node (o292v300 P) .nil .nil) .nil) (.node (o228v234 P) .nil .nil))) (.node (o52v46 P) (.node (o84v82 P) (.node (o148v150 P) (.node (o276v284 P) .nil .nil) .nil) (.node (o212v218 P) .nil .nil)) (.node (o116v116 P) (.node (o180v184 P) .nil .nil) (.node (o244v252 P) .nil .nil)))) (.node (o28v19 P) (.node (o44v38 P) (.node (o76v72 P) (.node (o140v142 P) (.node (o268v276 P) .nil .nil) .nil) (.node (o204v210 P) .nil .nil)) (.node (o108v108 P) (.node (o172v176 P) .nil .nil) (.node (o236v244 P) .nil .nil))) (.node (o60v54 P) (.node (o92v90 P) (.node (o156v158 P) (.node (o284v292 P) .nil .nil) .nil) (.node (o220v226 P) .nil .nil)) (.node (o124v126 P) (.node (o188v192 P) .nil .nil) (.node (o252v260 P) .nil .nil)))))) (.node (boot_o_6 P) (.node (boot_o_10 P) (.node (o18v9 P) (.node (o34v25 P) (.node (o66v62 P) (.node (o130v132 P) (.node (o258v266 P) .nil .nil) .nil) (.node (o194v200 P) .nil .nil)) (.node (o98v96 P) (.node (o162v164 P) (.node (o290v298 P) .nil .nil) .nil) (.node (o226v232 P) .nil .nil))) (.node (o50v44 P) (.node (o82v80 P) (.node (o146v148 P) (.node (o274v282 P) .nil .nil) .nil) (.node (o210v216 P) .nil .nil)) (.node (o114v114 P) (.node (o178v182 P) .nil .nil) (.node (o242v250 P) .nil .nil)))) (.node (o26v17 P) (.node (o42v33 P) (.node (o74v70 P) (.node (o138v140 P) (.node (o266v274 P) .nil .nil) .nil) (.node (o202v208 P) .nil .nil)) (.node (o106v106 P) (.node (o170v174 P) .nil .nil) (.node (o234v242 P) .nil .nil))) (.node (o58v52 P) (.node (o90v88 P) (.node (o154v156 P) (.node (o282v290 P) .nil .nil) .nil) (.node (o218v224 P) .nil .nil)) (.node (o122v124 P) (.node (o186v190 P) .nil .nil) (.node (o250v258 P) .nil .nil))))) (.node (o14v3 P) (.node (o22v13 P) (.node (o38v29 P) (.node (o70v66 P) (.node (o134v136 P) (.node (o262v270 P) .nil .nil) .nil) (.node (o198v204 P) .nil .nil)) (.node (o102v102 P) (.node (o166v170 P) (.node (o294v302 P) .nil .nil) .nil) (.node (o230v236 P) .nil .nil))) (.node (o54v48 P) (.node (o86v84 P) (.node (o150v152 P) (.node (o278v286 P) .nil .nil) .nil) (.node (o214v220 P) .nil .nil)) (.node (o118v118 P) (.node (o182v186 P) .nil .nil) (.node (o246v254 P) .nil .nil)))) (.node (o30v21 P) (.node (o46v40 P) (.node (o78v74 P) (.node (o142v144 P) (.node (o270v278 P) .nil .nil) .nil) (.node (o206v212 P) .nil .nil)) (.node (o110v110 P) (.node (o174v178 P) .nil .nil) (.node (o238v246 P) .nil .nil))) (.node (o62v56 P) (.node (o94v92 P) (.node (o158v160 P) (.node (o286v294 P) .nil .nil) .nil) (.node (o222v228 P) .nil .nil)) (.node (o126v128 P) (.node (o190v194 P) .nil .nil) (.node (o254v262 P) .nil .nil))))))))
noncomputable def o3v305 (P : Params) : Obj := ⟨.type "dict", none, .dict (List.toArray [⟨PyData.keyHash P (Str.ofString "__name__"), .str (Str.ofString "__name__") 165, .str (Str.ofString "snobol.nodes") 664⟩, ⟨PyData.keyHash P (Str.ofString "__doc__"), .str (Str.ofString "__doc__") 166, .none⟩, ⟨PyData.keyHash P (Str.ofString "__package__"), .str (Str.ofString "__package__") 167, .none⟩, ⟨PyData.keyHash P (Str.ofString "__loader__"), .str (Str.ofString "__loader__") 168, .builtin "__main__.__loader__#opaque"⟩, ⟨PyData.keyHash P (Str.ofString "__spec__"), .str (Str.ofString "__spec__") 169, .none⟩, ⟨PyData.keyHash P (Str.ofString "__annotations__"), .str (Str.ofString "__annotations__") 170, .ref 6⟩, ⟨PyData.keyHash P (Str.ofString "__builtins__"), .str (Str.ofString "__builtins__") 171, .ref 4⟩, ⟨PyData.keyHash P (Str.ofString "__file__"), .str (Str.ofString "__file__") 173, .str (Str.ofString "/claim/cut.py") 172⟩, ⟨PyData.keyHash P (Str.ofString "__cached__"), .str (Str.ofString "__cached__") 174, .none⟩, ⟨PyData.keyHash P (Str.ofString "give_names"), .str (Str.ofString "give_names") 198, .ref 21⟩, ⟨PyData.keyHash P (Str.ofString "three_pieces"), .str (Str.ofString "three_pieces") 206, .ref 28⟩, ⟨PyData.keyHash P (Str.ofString "spliced"), .str (Str.ofString "spliced") 218, .ref 35⟩, ⟨PyData.keyHash P (Str.ofString "replace_once"), .str (Str.ofString "replace_once") 232, .ref 42⟩, ⟨PyData.keyHash P (Str.ofString "SnobolError"), .str (Str.ofString "SnobolError") 268, .ref 62⟩, ⟨PyData.keyHash P (Str.ofString "Failure"), .str (Str.ofString "Failure") 288, .ref 75⟩, ⟨PyData.keyHash P (Str.ofString "Pattern"), .str (Str.ofString "Pattern") 317, .ref 96⟩, ⟨PyData.keyHash P (Str.ofString "Delayed"), .str (Str.ofString "Delayed") 346, .ref 117⟩, ⟨PyData.keyHash P (Str.ofString "NameRef"), .str (Str.ofString "NameRef") 379, .ref 138⟩, ⟨PyData.keyHash P (Str.ofString "is_fail"), .str (Str.ofString "is_fail") 386, .ref 149⟩, ⟨PyData.keyHash P (Str.ofString "fits"), .str (Str.ofString "fits") 394, .ref 156⟩, ⟨PyData.keyHash P (Str.ofString "whole_of_text"), .str (Str.ofString "whole_of_text") 405, .ref 163⟩, ⟨PyData.keyHash P (Str.ofString "text_of_whole"), .str (Str.ofString "text_of_whole") 414, .ref 170⟩, ⟨PyData.keyHash P (Str.ofString "to_whole"), .str (Str.ofString "to_whole") 422, .ref 177⟩, ⟨PyData.keyHash P (Str.ofString "to_text"), .str (Str.ofString "to_text") 429, .ref 184⟩, ⟨PyData.keyHash P (Str.ofString "need_text"), .str (Str.ofString "need_text") 437, .ref 191⟩, ⟨PyData.keyHash P (Str.ofString "PlainHost"), .str (Str.ofString "PlainHost") 499, .ref 229⟩, ⟨PyData.keyHash P (Str.ofString "OPENING"), .str (Str.ofString "OPENING") 503, .str (Str.ofString "(") 502⟩, ⟨PyData.keyHash P (Str.ofString "CLOSING"), .str (Str.ofString "CLOSING") 505, .str (Str.ofString ")") 504⟩, ⟨PyData.keyHash P (Str.ofString "chars_end"), .str (Str.ofString "chars_end") 515, .ref 240⟩, ⟨PyData.keyHash P (Str.ofString "len_end"), .str (Str.ofString "len_end") 524, .ref 247⟩, ⟨PyData.keyHash P (Str.ofString "pos_end"), .str (Str.ofString "pos_end") 532, .ref 254⟩, ⟨PyData.keyHash P (Str.ofString "rpos_end"), .str (Str.ofString "rpos_end") 541, .ref 261⟩, ⟨PyData.keyHash P (Str.ofString "tab_end"), .str (Str.ofString "tab_end") 550, .ref 268⟩, ⟨PyData.keyHash P (Str.ofString "rtab_end"), .str (Str.ofString "rtab_end") 560, .ref 275⟩, ⟨PyData.keyHash P (Str.ofString "rem_end"), .str (Str.ofString "rem_end") 567, .ref 282⟩, ⟨PyData.keyHash P (Str.ofString "any_at"), .str (Str.ofString "any_at") 576, .ref 289⟩, ⟨PyData.keyHash P (Str.ofString "notany_at"), .str (Str.ofString "notany_at") 585, .ref 296⟩, ⟨PyData.keyHash P (Str.ofString "run_end"), .str (Str.ofString "run_end") 595, .ref 303⟩, ⟨PyData.keyHash P (Str.ofString "span_end"), .str (Str.ofString "span_end") 605, .ref 310⟩, ⟨PyData.keyHash P (Str.ofString "break_end"), .str (Str.ofString "break_end") 615, .ref 317⟩, ⟨PyData.keyHash P (Str.ofString "bal_end"), .str (Str.ofString "bal_end") 624, .ref 324⟩, ⟨PyData.keyHash P (Str.ofString "bal_ends"), .str (Str.ofString "bal_ends") 634, .ref 331⟩, ⟨PyData.keyHash P (Str.ofString "one_end"), .str (Str.ofString "one_end") 644, .ref 338⟩, ⟨PyData.keyHash P (Str.ofString "plain_end"), .str (Str.ofString "plain_end") 653, .ref 345⟩, ⟨PyData.keyHash P (Str.ofString "replaced"), .str (Str.ofString "replaced") 663, .ref 352⟩, ⟨PyData.keyHash P (Str.ofString "COUNTED"), .str (Str.ofString "COUNTED") 671, .ref 353⟩, ⟨PyData.keyHash P (Str.ofString "SIGNED"), .str (Str.ofString "SIGNED") 676, .ref 354⟩, ⟨PyData.keyHash P (Str.ofString "WIDTH_OF_COUNT"), .str (Str.ofString "WIDTH_OF_COUNT") 678, .int (64) 677⟩]) 48, (List.toArray [])⟩
noncomputable def o12v306 (P : Params) : Obj := ⟨.none, none, .fields (List.toArray [.int (2) 0, .int (0) 0, .ref 20, .int (5) 0, .int (0) 0, .ref 27, .int (7) 0, .int (0) 0, .ref 34, .int (10) 0, .int (0) 0, .ref 41, .int (18) 0, .int (0) 0, .ref 49, .int (24) 0, .int (0) 0, .ref 71, .int (26) 0, .int (0) 0, .ref 85, .int (30) 0, .int (0) 0, .ref 106, .int (34) 0, .int (0) 0, .ref 127, .int (40) 0, .int (0) 0, .ref 148, .int (42) 0, .int (0) 0, .ref 155, .int (44) 0, .int (0) 0, .ref 162, .int (57) 0, .int (0) 0, .ref 169, .int (63) 0, .int (0) 0, .ref 176, .int (67) 0, .int (0) 0, .ref 183, .int (71) 0, .int (0) 0, .ref 190, .int (77) 0, .int (0) 0, .ref 197, .int (106) 0, .int (0) 0, .ref 239, .int (109) 0, .int (0) 0, .ref 246, .int (111) 0, .int (0) 0, .ref 253, .int (113) 0, .int (0) 0, .ref 260, .int (115) 0, .int (0) 0, .ref 267, .int (117) 0, .int (0) 0, .ref 274, .int (120) 0, .int (0) 0, .ref 281, .int (122) 0, .int (0) 0, .ref 288, .int (124) 0, .int (0) 0, .ref 295, .int (126) 0, .int (0) 0, .ref 302, .int (130) 0, .int (0) 0, .ref 309, .int (133) 0, .int (0) 0, .ref 316, .int (136) 0, .int (0) 0, .ref 323, .int (149) 0, .int (0) 0, .ref 330, .int (155) 0, .int (0) 0, .ref 337, .int (175) 0, .int (0) 0, .ref 344, .int (177) 0, .int (0) 0, .ref 351]), (List.toArray [])⟩
noncomputable def o297v307 (P : Params) : Obj := ⟨.type "tuple", none, .seq (List.toArray []) 0, (List.toArray [])⟩
noncomputable def o298v308 (P : Params) : Obj := ⟨.none, none, .fields (List.toArray []), (List.toArray [])⟩
noncomputable def o299v309 (P : Params) : Obj := ⟨.type "tuple", none, .seq (List.toArray [.str (Str.ofString "subject") 589, .str (Str.ofString "at") 590, .str (Str.ofString "signs") 591, .str (Str.ofString "is_in") 592]) 0, (List.toArray [])⟩
noncomputable def o300v310 (P : Params) : Obj := ⟨.type "tuple", none, .seq (List.toArray []) 0, (List.toArray [])⟩
noncomputable def o301v311 (P : Params) : Obj := ⟨.none, none, .func { name := (Str.ofString "run_end"), qualname := (Str.ofString "run_end"), params := parOf (stAt 32), body := .stmts (bodOf (stAt 32)), scope := scoOf (stAt 32), globals := 0, closure := [], defaults := .none, kwdefaults := .none, doc := .none, pyModule := .none, annotations := none, code := .none, closureTuple := .none, builtins := 0 }, (List.toArray [])⟩
noncomputable def o302v312 (P : Params) : Obj := ⟨.type "code", none, .fields (List.toArray [.str (Str.ofString "run_end") 586, .str (Str.ofString "run_end") 587, .str (Str.ofString "/claim/cut.py") 588, .int (126) 0, .int (4) 0, .int (0) 0, .int (0) 0, .int (3) 0, .ref 297, .bool true, .int (181) 0, .ref 298, .none, .ref 299, .ref 300, .ref 301, .int (593) 0, .int (126) 0, .str (Str.ofString "/claim/cut.py") 594]), (List.toArray [])⟩
noncomputable def o303v313 (P : Params) : Obj := ⟨.type "function", none, .func { name := (Str.ofString "run_end"), qualname := (Str.ofString "run_end"), params := parOf (stAt 32), body := .stmts (bodOf (stAt 32)), scope := scoOf (stAt 32), globals := 3, closure := [], defaults := .none, kwdefaults := .none, doc := .none, pyModule := .str (Str.ofString "snobol.primitives") 500, annotations := none, code := .ref 302, closureTuple := .none, builtins := 0 }, (List.toArray [])⟩
noncomputable def o304v314 (P : Params) : Obj := ⟨.type "tuple", none, .seq (List.toArray []) 0, (List.toArray [])⟩
noncomputable def o305v315 (P : Params) : Obj := ⟨.none, none, .fields (List.toArray []), (List.toArray [])⟩
noncomputable def o306v316 (P : Params) : Obj := ⟨.type "tuple", none, .seq (List.toArray [.str (Str.ofString "subject") 599, .str (Str.ofString "at") 600, .str (Str.ofString "signs") 601, .str (Str.ofString "end") 602]) 0, (List.toArray [])⟩
noncomputable def o307v317 (P : Params) : Obj := ⟨.type "tuple", none, .seq (List.toArray []) 0, (List.toArray [])⟩
noncomputable def o308v318 (P : Params) : Obj := ⟨.none, none, .func { name := (Str.ofString "span_end"), qualname := (Str.ofString "span_end"), params := parOf (stAt 33), body := .stmts (bodOf (stAt 33)), scope := scoOf (stAt 33), globals := 0, closure := [], defaults := .none, kwdefaults := .none, doc := .none, pyModule := .none, annotations := none, code := .none, closureTuple := .none, builtins := 0 }, (List.toArray [])⟩
noncomputable def o309v319 (P : Params) : Obj := ⟨.type "code", none, .fields (List.toArray [.str (Str.ofString "span_end") 596, .str (Str.ofString "span_end") 597, .str (Str.ofString "/claim/cut.py") 598, .int (130) 0, .int (3) 0, .int (0) 0, .int (0) 0, .int (3) 0, .ref 304, .bool true, .int (181) 0, .ref 305, .none, .ref 306, .ref 307, .ref 308, .int (603) 0, .int (130) 0, .str (Str.ofString "/claim/cut.py") 604]), (List.toArray [])⟩
noncomputable def o310v320 (P : Params) : Obj := ⟨.type "function", none, .func { name := (Str.ofString "span_end"), qualname := (Str.ofString "span_end"), params := parOf (stAt 33), body := .stmts (bodOf (stAt 33)), scope := scoOf (stAt 33), globals := 3, closure := [], defaults := .none, kwdefaults := .none, doc := .none, pyModule := .str (Str.ofString "snobol.primitives") 500, annotations := none, code := .ref 309, closureTuple := .none, builtins := 0 }, (List.toArray [])⟩
noncomputable def o311v321 (P : Params) : Obj := ⟨.type "tuple", none, .seq (List.toArray []) 0, (List.toArray [])⟩
noncomputable def o312v322 (P : Params) : Obj := ⟨.none, none, .fields (List.toArray []), (List.toArray [])⟩
noncomputable def o313v323 (P : Params) : Obj := ⟨.type "tuple", none, .seq (List.toArray [.str (Str.ofString "subject") 609, .str (Str.ofString "at") 610, .str (Str.ofString "signs") 611, .str (Str.ofString "end") 612]) 0, (List.toArray [])⟩
noncomputable def o314v324 (P : Params) : Obj := ⟨.type "tuple", none, .seq (List.toArray []) 0, (List.toArray [])⟩
noncomputable def o315v325 (P : Params) : Obj := ⟨.none, none, .func { name := (Str.ofString "break_end"), qualname := (Str.ofString "break_end"), params := parOf (stAt 34), body := .stmts (bodOf (stAt 34)), scope := scoOf (stAt 34), globals := 0, closure := [], defaults := .none, kwdefaults := .none, doc := .none, pyModule := .none, annotations := none, code := .none, closureTuple := .none, builtins := 0 }, (List.toArray [])⟩
noncomputable def o316v326 (P : Params) : Obj := ⟨.type "code", none, .fields (List.toArray [.str (Str.ofString "break_end") 606, .str (Str.ofString "break_end") 607, .str (Str.ofString "/claim/cut.py") 608, .int (133) 0, .int (3) 0, .int (0) 0, .int (0) 0, .int (3) 0, .ref 311, .bool true, .int (181) 0, .ref 312, .none, .ref 313, .ref 314, .ref 315, .int (613) 0, .int (133) 0, .str (Str.ofString "/claim/cut.py") 614]), (List.toArray [])⟩
noncomputable def o317v327 (P : Params) : Obj := ⟨.type "function", none, .func { name := (Str.ofString "break_end"), qualname := (Str.ofString "break_end"), params := parOf (stAt 34), body := .stmts (bodOf (stAt 34)), scope := scoOf (stAt 34), globals := 3, closure := [], defaults := .none, kwdefaults := .none, doc := .none, pyModule := .str (Str.ofString "snobol.primitives") 500, annotations := none, code := .ref 316, closureTuple := .none, builtins := 0 }, (List.toArray [])⟩
noncomputable def o318v328 (P : Params) : Obj := ⟨.type "tuple", none, .seq (List.toArray []) 0, (List.toArray [])⟩
noncomputable def o319v329 (P : Params) : Obj := ⟨.none, none, .fields (List.toArray []), (List.toArray [])⟩
noncomputable def o320v330 (P : Params) : Obj := ⟨.type "tuple", none, .seq (List.toArray [.str (Str.ofString "subject") 619, .str (Str.ofString "at") 620, .str (Str.ofString "level") 621]) 0, (List.toArray [])⟩
noncomputable def o321v331 (P : Params) : Obj := ⟨.type "tuple", none, .seq (List.toArray []) 0, (List.toArray [])⟩
noncomputable def o322v332 (P : Params) : Obj := ⟨.none, none, .func { name := (Str.ofString "bal_end"), qualname := (Str.ofString "bal_end"), params := parOf (stAt 35), body := .stmts (bodOf (stAt 35)), scope := scoOf (stAt 35), globals := 0, closure := [], defaults := .none, kwdefaults := .none, doc := .none, pyModule := .none, annotations := none, code := .none, closureTuple := .none, builtins := 0 }, (List.toArray [])⟩
noncomputable def o323v333 (P : Params) : Obj := ⟨.type "code", none, .fields (List.toArray [.str (Str.ofString "bal_end") 616, .str (Str.ofString "bal_end") 617, .str (Str.ofString "/claim/cut.py") 618, .int (136) 0, .int (2) 0, .int (0) 0, .int (0) 0, .int (3) 0, .ref 318, .bool true, .int (181) 0, .ref 319, .none, .ref 320, .ref 321, .ref 322, .int (622) 0, .int (136) 0, .str (Str.ofString "/claim/cut.py") 623]), (List.toArray [])⟩
noncomputable def o324v334 (P : Params) : Obj := ⟨.type "function", none, .func { name := (Str.ofString "bal_end"), qualname := (Str.ofString "bal_end"), params := parOf (stAt 35), body := .stmts (bodOf (stAt 35)), scope := scoOf (stAt 35), globals := 3, closure := [], defaults := .none, kwdefaults := .none, doc := .none, pyModule := .str (Str.ofString "snobol.primitives") 500, annotations := none, code := .ref 323, closureTuple := .none, builtins := 0 }, (List.toArray [])⟩
noncomputable def o325v335 (P : Params) : Obj := ⟨.type "tuple", none, .seq (List.toArray []) 0, (List.toArray [])⟩
noncomputable def o326v336 (P : Params) : Obj := ⟨.none, none, .fields (List.toArray []), (List.toArray [])⟩
noncomputable def o327v337 (P : Params) : Obj := ⟨.type "tuple", none, .seq (List.toArray [.str (Str.ofString "subject") 628, .str (Str.ofString "at") 629, .str (Str.ofString "found") 630, .str (Str.ofString "end") 631]) 0, (List.toArray [])⟩
noncomputable def o328v338 (P : Params) : Obj := ⟨.type "tuple", none, .seq (List.toArray []) 0, (List.toArray [])⟩
noncomputable def o329v339 (P : Params) : Obj := ⟨.none, none, .func { name := (Str.ofString "bal_ends"), qualname := (Str.ofString "bal_ends"), params := parOf (stAt 36), body := .stmts (bodOf (stAt 36)), scope := scoOf (stAt 36), globals := 0, closure := [], defaults := .none, kwdefaults := .none, doc := .none, pyModule := .none, annotations := none, code := .none, closureTuple := .none, builtins := 0 }, (List.toArray [])⟩
noncomputable def o330v340 (P : Params) : Obj := ⟨.type "code", none, .fields (List.toArray [.str (Str.ofString "bal_ends") 625, .str (Str.ofString "bal_ends") 626, .str (Str.ofString "/claim/cut.py") 627, .int (149) 0, .int (2) 0, .int (0) 0, .int (0) 0, .int (3) 0, .ref 325, .bool true, .int (181) 0, .ref 326, .none, .ref 327, .ref 328, .ref 329, .int (632) 0, .int (149) 0, .str (Str.ofString "/claim/cut.py") 633]), (List.toArray [])⟩
noncomputable def o331v341 (P : Params) : Obj := ⟨.type "function", none, .func { name := (Str.ofString "bal_ends"), qualname := (Str.ofString "bal_ends"), params := parOf (stAt 36), body := .stmts (bodOf (stAt 36)), scope := scoOf (stAt 36), globals := 3, closure := [], defaults := .none, kwdefaults := .none, doc := .none, pyModule := .str (Str.ofString "snobol.primitives") 500, annotations := none, code := .ref 330, closureTuple := .none, builtins := 0 }, (List.toArray [])⟩
noncomputable def o332v342 (P : Params) : Obj := ⟨.type "tuple", none, .seq (List.toArray []) 0, (List.toArray [])⟩
noncomputable def o333v343 (P : Params) : Obj := ⟨.none, none, .fields (List.toArray []), (List.toArray [])⟩
noncomputable def o334v344 (P : Params) : Obj := ⟨.type "tuple", none, .seq (List.toArray [.str (Str.ofString "kind") 638, .str (Str.ofString "subject") 639, .str (Str.ofString "at") 640, .str (Str.ofString "told") 641]) 0, (List.toArray [])⟩
noncomputable def o335v345 (P : Params) : Obj := ⟨.type "tuple", none, .seq (List.toArray []) 0, (List.toArray [])⟩
noncomputable def o336v346 (P : Params) : Obj := ⟨.none, none, .func { name := (Str.ofString "one_end"), qualname := (Str.ofString "one_end"), params := parOf (stAt 37), body := .stmts (bodOf (stAt 37)), scope := scoOf (stAt 37), globals := 0, closure := [], defaults := .none, kwdefaults := .none, doc := .none, pyModule := .none, annotations := none, code := .none, closureTuple := .none, builtins := 0 }, (List.toArray [])⟩
noncomputable def o337v347 (P : Params) : Obj := ⟨.type "code", none, .fields (List.toArray [.str (Str.ofString "one_end") 635, .str (Str.ofString "one_end") 636, .str (Str.ofString "/claim/cut.py") 637, .int (155) 0, .int (4) 0, .int (0) 0, .int (0) 0, .int (3) 0, .ref 332, .bool true, .int (181) 0, .ref 333, .none, .ref 334, .ref 335, .ref 336, .int (642) 0, .int (155) 0, .str (Str.ofString "/claim/cut.py") 643]), (List.toArray [])⟩
noncomputable def o338v348 (P : Params) : Obj := ⟨.type "function", none, .func { name := (Str.ofString "one_end"), qualname := (Str.ofString "one_end"), params := parOf (stAt 37), body := .stmts (bodOf (stAt 37)), scope := scoOf (stAt 37), globals := 3, closure := [], defaults := .none, kwdefaults := .none, doc := .none, pyModule := .str (Str.ofString "snobol.primitives") 500, annotations := none, code := .ref 337, closureTuple := .none, builtins := 0 }, (List.toArray [])⟩
noncomputable def o339v349 (P : Params) : Obj := ⟨.type "tuple", none, .seq (List.toArray []) 0, (List.toArray [])⟩
noncomputable def o340v350 (P : Params) : Obj := ⟨.none, none, .fields (List.toArray []), (List.toArray [])⟩
noncomputable def o341v351 (P : Params) : Obj := ⟨.type "tuple", none, .seq (List.toArray [.str (Str.ofString "node") 648, .str (Str.ofString "subject") 649, .str (Str.ofString "at") 650]) 0, (List.toArray [])⟩
noncomputable def o342v352 (P : Params) : Obj := ⟨.type "tuple", none, .seq (List.toArray []) 0, (List.toArray [])⟩
noncomputable def o343v353 (P : Params) : Obj := ⟨.none, none, .func { name := (Str.ofString "plain_end"), qualname := (Str.ofString "plain_end"), params := parOf (stAt 38), body := .stmts (bodOf (stAt 38)), scope := scoOf (stAt 38), globals := 0, closure := [], defaults := .none, kwdefaults := .none, doc := .none, pyModule := .none, annotations := none, code := .none, closureTuple := .none, builtins := 0 }, (List.toArray [])⟩
noncomputable def o344v354 (P : Params) : Obj := ⟨.type "code", none, .fields (List.toArray [.str (Str.ofString "plain_end") 645, .str (Str.ofString "plain_end") 646, .str (Str.ofString "/claim/cut.py") 647, .int (175) 0, .int (3) 0, .int (0) 0, .int (0) 0, .int (3) 0, .ref 339, .bool true, .int (181) 0, .ref 340, .none, .ref 341, .ref 342, .ref 343, .int (651) 0, .int (175) 0, .str (Str.ofString "/claim/cut.py") 652]), (List.toArray [])⟩
noncomputable def o345v355 (P : Params) : Obj := ⟨.type "function", none, .func { name := (Str.ofString "plain_end"), qualname := (Str.ofString "plain_end"), params := parOf (stAt 38), body := .stmts (bodOf (stAt 38)), scope := scoOf (stAt 38), globals := 3, closure := [], defaults := .none, kwdefaults := .none, doc := .none, pyModule := .str (Str.ofString "snobol.primitives") 500, annotations := none, code := .ref 344, closureTuple := .none, builtins := 0 }, (List.toArray [])⟩
noncomputable def o346v356 (P : Params) : Obj := ⟨.type "tuple", none, .seq (List.toArray []) 0, (List.toArray [])⟩
noncomputable def o347v357 (P : Params) : Obj := ⟨.none, none, .fields (List.toArray []), (List.toArray [])⟩
noncomputable def o348v358 (P : Params) : Obj := ⟨.type "tuple", none, .seq (List.toArray [.str (Str.ofString "subject") 657, .str (Str.ofString "begin") 658, .str (Str.ofString "end") 659, .str (Str.ofString "text") 660]) 0, (List.toArray [])⟩
noncomputable def o349v359 (P : Params) : Obj := ⟨.type "tuple", none, .seq (List.toArray []) 0, (List.toArray [])⟩
noncomputable def o350v360 (P : Params) : Obj := ⟨.none, none, .func { name := (Str.ofString "replaced"), qualname := (Str.ofString "replaced"), params := parOf (stAt 39), body := .stmts (bodOf (stAt 39)), scope := scoOf (stAt 39), globals := 0, closure := [], defaults := .none, kwdefaults := .none, doc := .none, pyModule := .none, annotations := none, code := .none, closureTuple := .none, builtins := 0 }, (List.toArray [])⟩
noncomputable def o351v361 (P : Params) : Obj := ⟨.type "code", none, .fields (List.toArray [.str (Str.ofString "replaced") 654, .str (Str.ofString "replaced") 655, .str (Str.ofString "/claim/cut.py") 656, .int (177) 0, .int (4) 0, .int (0) 0, .int (0) 0, .int (3) 0, .ref 346, .bool true, .int (181) 0, .ref 347, .none, .ref 348, .ref 349, .ref 350, .int (661) 0, .int (177) 0, .str (Str.ofString "/claim/cut.py") 662]), (List.toArray [])⟩
noncomputable def o352v362 (P : Params) : Obj := ⟨.type "function", none, .func { name := (Str.ofString "replaced"), qualname := (Str.ofString "replaced"), params := parOf (stAt 39), body := .stmts (bodOf (stAt 39)), scope := scoOf (stAt 39), globals := 3, closure := [], defaults := .none, kwdefaults := .none, doc := .none, pyModule := .str (Str.ofString "snobol.primitives") 500, annotations := none, code := .ref 351, closureTuple := .none, builtins := 0 }, (List.toArray [])⟩
noncomputable def o353v363 (P : Params) : Obj := ⟨.type "tuple", none, .seq (List.toArray [.str (Str.ofString "len") 666, .str (Str.ofString "pos") 667, .str (Str.ofString "rpos") 668, .str (Str.ofString "tab") 669, .str (Str.ofString "rtab") 670]) 0, (List.toArray [])⟩
noncomputable def o354v364 (P : Params) : Obj := ⟨.type "tuple", none, .seq (List.toArray [.str (Str.ofString "any") 672, .str (Str.ofString "notany") 673, .str (Str.ofString "span") 674, .str (Str.ofString "break") 675]) 0, (List.toArray [])⟩
noncomputable def T10 (P : Params) : BT := (.node (boot_o_0 P) (.node (boot_o_1 P) (.node (o3v305 P) (.node (boot_o_7 P) (.node (o15v6 P) (.node (o31v22 P) (.node (o63v57 P) (.node (o127v129 P) (.node (o255v263 P) .nil .nil) .nil) (.node (o191v195 P) (.node (o319v329 P) .nil .nil) .nil)) (.node (o95v93 P) (.node (o159v161 P) (.node (o287v295 P) .nil .nil) .nil) (.node (o223v229 P) (.node (o351v361 P) .nil .nil) .nil))) (.node (o47v41 P) (.node (o79v75 P) (.node (o143v145 P) (.node (o271v279 P) .nil .nil) .nil) (.node (o207v213 P) (.node (o335v345 P) .nil .nil) .nil)) (.node (o111v111 P) (.node (o175v179 P) (.node (o303v313 P) .nil .nil) .nil) (.node (o239v247 P) .nil .nil)))) (.node (o23v14 P) (.node (o39v30 P) (.node (o71v67 P) (.node (o135v137 P) (.node (o263v271 P) .nil .nil) .nil) (.node (o199v205 P) (.node (o327v337 P) .nil .nil) .nil)) (.node (o103v103 P) (.node (o167v171 P) (.node (o295v303 P) .nil .nil) .nil) (.node (o231v237 P) .nil .nil))) (.node (o55v49 P) (.node (o87v85 P) (.node (o151v153 P) (.node (o279v287 P) .nil .nil) .nil) (.node (o215v221 P) (.node (o343v353 P) .nil .nil) .nil)) (.node (o119v119 P) (.node (o183v187 P) (.node (o311v321 P) .nil .nil) .nil) (.node (o247v255 P) .nil .nil))))) (.node (o11v0 P) (.node (o19v10 P) (.node (o35v26 P) (.node (o67v63 P) (.node (o131v133 P) (.node (o259v267 P) .nil .nil) .nil) (.node (o195v201 P) (.node (o323v333 P) .nil .nil) .nil)) (.node (o99v97 P) (.node (o163v165 P) (.node (o291v299 P) .nil .nil) .nil) (.node (o227v233 P) .nil .nil))) (.node (o51v45 P) (.node (o83v81 P) (.node (o147v149 P) (.node (o275v283 P) .nil .nil) .nil) (.node (o211v217 P) (.node (o339v349 P) .nil .nil) .nil)) (.node (o115v115 P) (.node (o179v183 P) (.node (o307v317 P) .nil .nil) .nil) (.node (o243v251 P) .nil .nil)))) (.node (o27v18 P) (.node (o43v37 P) (.node (o75v71 P) (.node (o139v141 P) (.node (o267v275 P) .nil .nil) .nil) (.node (o203v209 P) (.node (o331v341 P) .nil .nil) .nil)) (.node (o107v107 P) (.node (o171v175 P) (.node (o299v309 P) .nil .nil) .nil) (.node (o235v243 P) .nil .nil))) (.node (o59v53 P) (.node (o91v89 P) (.node (o155v157 P) (.node (o283v291 P) .nil .nil) .nil) (.node (o219v225 P) (.node (o347v357 P) .nil .nil) .nil)) (.node (o123v125 P) (.node (o187v191 P) (.node (o315v325 P) .nil .nil) .nil) (.node (o251v259 P) .nil .nil)))))) (.node (boot_o_5 P) (.node (boot_o_9 P) (.node (o17v8 P) (.node (o33v24 P) (.node (o65v59 P) (.node (o129v131 P) (.node (o257v265 P) .nil .nil) .nil) (.node (o193v199 P) (.node (o321v331 P) .nil .nil) .nil)) (.node (o97v95 P) (.node (o161v163 P) (.node (o289v297 P) .nil .nil) .nil) (.node (o225v231 P) (.node (o353v363 P) .nil .nil) .nil))) (.node (o49v43 P) (.node (o81v79 P) (.node (o145v147 P) (.node (o273v281 P) .nil .nil) .nil) (.node (o209v215 P) (.node (o337v347 P) .nil .nil) .nil)) (.node (o113v113 P) (.node (o177v181 P) (.node (o305v315 P) .nil .nil) .nil) (.node (o241v249 P) .nil .nil)))) (.node (o25v16 P) (.node (o41v32 P) (.node (o73v69 P) (.node (o137v139 P) (.node (o265v273 P) .nil .nil) .nil) (.node (o201v207 P) (.node (o329v339 P) .nil .nil) .nil)) (.node (o105v105 P) (.node (o169v173 P) (.node (o297v307 P) .nil .nil) .nil) (.node (o233v239 P) .nil .nil))) (.node (o57v51 P) (.node (o89v87 P) (.node (o153v155 P) (.node (o281v289 P) .nil .nil) .nil) (.node (o217v223 P) (.node (o345v355 P) .nil .nil) .nil)) (.node (o121v121 P) (.node (o185v189 P) (.node (o313v323 P) .nil .nil) .nil) (.node (o249v257 P) .nil .nil))))) (.node (o13v2 P) (.node (o21v12 P) (.node (o37v28 P) (.node (o69v65 P) (.node (o133v135 P) (.node (o261v269 P) .nil .nil) .nil) (.node (o197v203 P) (.node (o325v335 P) .nil .nil) .nil)) (.node (o101v101 P) (.node (o165v169 P) (.node (o293v301 P) .nil .nil) .nil) (.node (o229v235 P) .nil .nil))) (.node (o53v47 P) (.node (o85v83 P) (.node (o149v151 P) (.node (o277v285 P) .nil .nil) .nil) (.node (o213v219 P) (.node (o341v351 P) .nil .nil) .nil)) (.node (o117v117 P) (.node (o181v185 P) (.node (o309v319 P) .nil .nil) .nil) (.node (o245v253 P) .nil .nil)))) (.node (o29v20 P) (.node (o45v39 P) (.node (o77v73 P) (.node (o141v143 P) (.node (o269v277 P) .nil .nil) .nil) (.node (o205v211 P) (.node (o333v343 P) .nil .nil) .nil)) (.node (o109v109 P) (.node (o173v177 P) (.node (o301v311 P) .nil .nil) .nil) (.node (o237v245 P) .nil .nil))) (.node (o61v55 P) (.node (o93v91 P) (.node (o157v159 P) (.node (o285v293 P) .nil .nil) .nil) (.node (o221v227 P) (.node (o349v359 P) .nil .nil) .nil)) (.node (o125v127 P) (.node (o189v193 P) (.node (o317v327 P) .nil .nil) .nil) (.node (o253v261 P) .nil .nil))))))) (.node (o2v34 P) (.node (boot_o_4 P) (.node (boot_o_8 P) (.node (o16v7 P) (.node (o32v23 P) (.node (o64v58 P) (.node (o128v130 P) (.node (o256v264 P) .nil .nil) .nil) (.node (o192v198 P) (.node (o320v330 P) .nil .nil) .nil)) (.node (o96v94 P) (.node (o160v162 P) (.node (o288v296 P) .nil .nil) .nil) (.node (o224v230 P) (.node (o352v362 P) .nil .nil) .nil))) (.node (o48v42 P) (.node (o80v78 P) (.node (o144v146 P) (.node (o272v280 P) .nil .nil) .nil) (.node (o208v214 P) (.node (o336v346 P) .nil .nil) .nil)) (.node (o112v112 P) (.node (o176v180 P) (.node (o304v314 P) .nil .nil) .nil) (.node (o240v248 P) .nil .nil)))) (.node (o24v15 P) (.node (o40v31 P) (.node (o72v68 P) (.node (o136v138 P) (.node (o264v272 P) .nil .nil) .nil) (.node (o200v206 P) (.node (o328v338 P) .nil .nil) .nil)) (.node (o104v104 P) (.node (o168v172 P) (.node (o296v304 P) .nil .nil) .nil) (.node (o232v238 P) .nil .nil))) (.node (o56v50 P) (.node (o88v86 P) (.node (o152v154 P) (.node (o280v288 P) .nil .nil) .nil) (.node (o216v222 P) (.node (o344v354 P) .nil .nil) .nil)) (.node (o120v120 P) (.node (o184v188 P) (.node (o312v322 P) .nil .nil) .nil) (.node (o248v256 P) .nil .nil))))) (.node (o12v306 P) (.node (o20v11 P) (.node (o36v27 P) (.node (o68v64 P) (.node (o132v134 P) (.node (o260v268 P) .nil .nil) .nil) (.node (o196v202 P) (.node (o324v334 P) .nil .nil) .nil)) (.node (o100v98 P) (.node (o164v168 P) (.node (o292v300 P) .nil .nil) .nil) (.node (o228v234 P) .nil .nil))) (.node (o52v46 P) (.node (o84v82 P) (.node (o148v150 P) (.node (o276v284 P) .nil .nil) .nil) (.node (o212v218 P) (.node (o340v350 P) .nil .nil) .nil)) (.node (o116v116 P) (.node (o180v184 P) (.node (o308v318 P) .nil .nil) .nil) (.node (o244v252 P) .nil .nil)))) (.node (o28v19 P) (.node (o44v38 P) (.node (o76v72 P) (.node (o140v142 P) (.node (o268v276 P) .nil .nil) .nil) (.node (o204v210 P) (.node (o332v342 P) .nil .nil) .nil)) (.node (o108v108 P) (.node (o172v176 P) (.node (o300v310 P) .nil .nil) .nil) (.node (o236v244 P) .nil .nil))) (.node (o60v54 P) (.node (o92v90 P) (.node (o156v158 P) (.node (o284v292 P) .nil .nil) .nil) (.node (o220v226 P) (.node (o348v358 P) .nil .nil) .nil)) (.node (o124v126 P) (.node (o188v192 P) (.node (o316v326 P) .nil .nil) .nil) (.node (o252v260 P) .nil .nil)))))) (.node (boot_o_6 P) (.node (boot_o_10 P) (.node (o18v9 P) (.node (o34v25 P) (.node (o66v62 P) (.node (o130v132 P) (.node (o258v266 P) .nil .nil) .nil) (.node (o194v200 P) (.node (o322v332 P) .nil .nil) .nil)) (.node (o98v96 P) (.node (o162v164 P) (.node (o290v298 P) .nil .nil) .nil) (.node (o226v232 P) (.node (o354v364 P) .nil .nil) .nil))) (.node (o50v44 P) (.node (o82v80 P) (.node (o146v148 P) (.node (o274v282 P) .nil .nil) .nil) (.node (o210v216 P) (.node (o338v348 P) .nil .nil) .nil)) (.node (o114v114 P) (.node (o178v182 P) (.node (o306v316 P) .nil .nil) .nil) (.node (o242v250 P) .nil .nil)))) (.node (o26v17 P) (.node (o42v33 P) (.node (o74v70 P) (.node (o138v140 P) (.node (o266v274 P) .nil .nil) .nil) (.node (o202v208 P) (.node (o330v340 P) .nil .nil) .nil)) (.node (o106v106 P) (.node (o170v174 P) (.node (o298v308 P) .nil .nil) .nil) (.node (o234v242 P) .nil .nil))) (.node (o58v52 P) (.node (o90v88 P) (.node (o154v156 P) (.node (o282v290 P) .nil .nil) .nil) (.node (o218v224 P) (.node (o346v356 P) .nil .nil) .nil)) (.node (o122v124 P) (.node (o186v190 P) (.node (o314v324 P) .nil .nil) .nil) (.node (o250v258 P) .nil .nil))))) (.node (o14v3 P) (.node (o22v13 P) (.node (o38v29 P) (.node (o70v66 P) (.node (o134v136 P) (.node (o262v270 P) .nil .nil) .nil) (.node (o198v204 P) (.node (o326v336 P) .nil .nil) .nil)) (.node (o102v102 P) (.node (o166v170 P) (.node (o294v302 P) .nil .nil) .nil) (.node (o230v236 P) .nil .nil))) (.node (o54v48 P) (.node (o86v84 P) (.node (o150v152 P) (.node (o278v286 P) .nil .nil) .nil) (.node (o214v220 P) (.node (o342v352 P) .nil .nil) .nil)) (.node (o118v118 P) (.node (o182v186 P) (.node (o310v320 P) .nil .nil) .nil) (.node (o246v254 P) .nil .nil)))) (.node (o30v21 P) (.node (o46v40 P) (.node (o78v74 P) (.node (o142v144 P) (.node (o270v278 P) .nil .nil) .nil) (.node (o206v212 P) (.node (o334v344 P) .nil .nil) .nil)) (.node (o110v110 P) (.node (o174v178 P) (.node (o302v312 P) .nil .nil) .nil) (.node (o238v246 P) .nil .nil))) (.node (o62v56 P) (.node (o94v92 P) (.node (o158v160 P) (.node (o286v294 P) .nil .nil) .nil) (.node (o222v228 P) (.node (o350v360 P) .nil .nil) .nil)) (.node (o126v128 P) (.node (o190v194 P) (.node (o318v328 P) .nil .nil) .nil) (.node (o254v262 P) .nil .nil))))))))
noncomputable def o3v365 (P : Params) : Obj := ⟨.type "dict", none, .dict (List.toArray [⟨PyData.keyHash P (Str.ofString "__name__"), .str (Str.ofString "__name__") 165, .str (Str.ofString "snobol.trial") 722⟩, ⟨PyData.keyHash P (Str.ofString "__doc__"), .str (Str.ofString "__doc__") 166, .none⟩, ⟨PyData.keyHash P (Str.ofString "__package__"), .str (Str.ofString "__package__") 167, .none⟩, ⟨PyData.keyHash P (Str.ofString "__loader__"), .str (Str.ofString "__loader__") 168, .builtin "__main__.__loader__#opaque"⟩, ⟨PyData.keyHash P (Str.ofString "__spec__"), .str (Str.ofString "__spec__") 169, .none⟩, ⟨PyData.keyHash P (Str.ofString "__annotations__"), .str (Str.ofString "__annotations__") 170, .ref 6⟩, ⟨PyData.keyHash P (Str.ofString "__builtins__"), .str (Str.ofString "__builtins__") 171, .ref 4⟩, ⟨PyData.keyHash P (Str.ofString "__file__"), .str (Str.ofString "__file__") 173, .str (Str.ofString "/claim/cut.py") 172⟩, ⟨PyData.keyHash P (Str.ofString "__cached__"), .str (Str.ofString "__cached__") 174, .none⟩, ⟨PyData.keyHash P (Str.ofString "give_names"), .str (Str.ofString "give_names") 198, .ref 21⟩, ⟨PyData.keyHash P (Str.ofString "three_pieces"), .str (Str.ofString "three_pieces") 206, .ref 28⟩, ⟨PyData.keyHash P (Str.ofString "spliced"), .str (Str.ofString "spliced") 218, .ref 35⟩, ⟨PyData.keyHash P (Str.ofString "replace_once"), .str (Str.ofString "replace_once") 232, .ref 42⟩, ⟨PyData.keyHash P (Str.ofString "SnobolError"), .str (Str.ofString "SnobolError") 268, .ref 62⟩, ⟨PyData.keyHash P (Str.ofString "Failure"), .str (Str.ofString "Failure") 288, .ref 75⟩, ⟨PyData.keyHash P (Str.ofString "Pattern"), .str (Str.ofString "Pattern") 317, .ref 96⟩, ⟨PyData.keyHash P (Str.ofString "Delayed"), .str (Str.ofString "Delayed") 346, .ref 117⟩, ⟨PyData.keyHash P (Str.ofString "NameRef"), .str (Str.ofString "NameRef") 379, .ref 138⟩, ⟨PyData.keyHash P (Str.ofString "is_fail"), .str (Str.ofString "is_fail") 386, .ref 149⟩, ⟨PyData.keyHash P (Str.ofString "fits"), .str (Str.ofString "fits") 394, .ref 156⟩, ⟨PyData.keyHash P (Str.ofString "whole_of_text"), .str (Str.ofString "whole_of_text") 405, .ref 163⟩, ⟨PyData.keyHash P (Str.ofString "text_of_whole"), .str (Str.ofString "text_of_whole") 414, .ref 170⟩, ⟨PyData.keyHash P (Str.ofString "to_whole"), .str (Str.ofString "to_whole") 422, .ref 177⟩, ⟨PyData.keyHash P (Str.ofString "to_text"), .str (Str.ofString "to_text") 429, .ref 184⟩, ⟨PyData.keyHash P (Str.ofString "need_text"), .str (Str.ofString "need_text") 437, .ref 191⟩, ⟨PyData.keyHash P (Str.ofString "PlainHost"), .str (Str.ofString "PlainHost") 499, .ref 229⟩, ⟨PyData.keyHash P (Str.ofString "OPENING"), .str (Str.ofString "OPENING") 503, .str (Str.ofString "(") 502⟩, ⟨PyData.keyHash P (Str.ofString "CLOSING"), .str (Str.ofString "CLOSING") 505, .str (Str.ofString ")") 504⟩, ⟨PyData.keyHash P (Str.ofString "chars_end"), .str (Str.ofString "chars_end") 515, .ref 240⟩, ⟨PyData.keyHash P (Str.ofString "len_end"), .str (Str.ofString "len_end") 524, .ref 247⟩, ⟨PyData.keyHash P (Str.ofString "pos_end"), .str (Str.ofString "pos_end") 532, .ref 254⟩, ⟨PyData.keyHash P (Str.ofString "rpos_end"), .str (Str.ofString "rpos_end") 541, .ref 261⟩, ⟨PyData.keyHash P (Str.ofString "tab_end"), .str (Str.ofString "tab_end") 550, .ref 268⟩, ⟨PyData.keyHash P (Str.ofString "rtab_end"), .str (Str.ofString "rtab_end") 560, .ref 275⟩, ⟨PyData.keyHash P (Str.ofString "rem_end"), .str (Str.ofString "rem_end") 567, .ref 282⟩, ⟨PyData.keyHash P (Str.ofString "any_at"), .str (Str.ofString "any_at") 576, .ref 289⟩, ⟨PyData.keyHash P (Str.ofString "notany_at"), .str (Str.ofString "notany_at") 585, .ref 296⟩, ⟨PyData.keyHash P (Str.ofString "run_end"), .str (Str.ofString "run_end") 595, .ref 303⟩, ⟨PyData.keyHash P (Str.ofString "span_end"), .str (Str.ofString "span_end") 605, .ref 310⟩, ⟨PyData.keyHash P (Str.ofString "break_end"), .str (Str.ofString "break_end") 615, .ref 317⟩, ⟨PyData.keyHash P (Str.ofString "bal_end"), .str (Str.ofString "bal_end") 624, .ref 324⟩, ⟨PyData.keyHash P (Str.ofString "bal_ends"), .str (Str.ofString "bal_ends") 634, .ref 331⟩, ⟨PyData.keyHash P (Str.ofString "one_end"), .str (Str.ofString "one_end") 644, .ref 338⟩, ⟨PyData.keyHash P (Str.ofString "plain_end"), .str (Str.ofString "plain_end") 653, .ref 345⟩, ⟨PyData.keyHash P (Str.ofString "replaced"), .str (Str.ofString "replaced") 663, .ref 352⟩, ⟨PyData.keyHash P (Str.ofString "COUNTED"), .str (Str.ofString "COUNTED") 671, .ref 353⟩, ⟨PyData.keyHash P (Str.ofString "SIGNED"), .str (Str.ofString "SIGNED") 676, .ref 354⟩, ⟨PyData.keyHash P (Str.ofString "WIDTH_OF_COUNT"), .str (Str.ofString "WIDTH_OF_COUNT") 678, .int (64) 677⟩, ⟨PyData.keyHash P (Str.ofString "plain_count"), .str (Str.ofString "plain_count") 688, .ref 362⟩, ⟨PyData.keyHash P (Str.ofString "plain_signs"), .str (Str.ofString "plain_signs") 697, .ref 369⟩, ⟨PyData.keyHash P (Str.ofString "pattern_of"), .str (Str.ofString "pattern_of") 705, .ref 376⟩, ⟨PyData.keyHash P (Str.ofString "is_delayed"), .str (Str.ofString "is_delayed") 712, .ref 383⟩, ⟨PyData.keyHash P (Str.ofString "settled"), .str (Str.ofString "settled") 721, .ref 390⟩, ⟨PyData.keyHash P (Str.ofString "LOST"), .str (Str.ofString "LOST") 725, .str (Str.ofString "lost") 724⟩, ⟨PyData.keyHash P (Str.ofString "match_at"), .str (Str.ofString "match_at") 736, .ref 397⟩, ⟨PyData.keyHash P (Str.ofString "tried"), .str (Str.ofString "tried") 751, .ref 404⟩, ⟨PyData.keyHash P (Str.ofString "advanced"), .str (Str.ofString "advanced") 767, .ref 411⟩, ⟨PyData.keyHash P (Str.ofString "led_in"), .str (Str.ofString "led_in") 779, .ref 418⟩]) 58, (List.toArray [])⟩
noncomputable def o12v366 (P : Params) : Obj := ⟨.none, none, .fields (List.toArray [.int (2) 0, .int (0) 0, .ref 20, .int (5) 0, .int (0) 0, .ref 27, .int (7) 0, .int (0) 0, .ref 34, .int (10) 0, .int (0) 0, .ref 41, .int (18) 0, .int (0) 0, .ref 49, .int (24) 0, .int (0) 0, .ref 71, .int (26) 0, .int (0) 0, .ref 85, .int (30) 0, .int (0) 0, .ref 106, .int (34) 0, .int (0) 0, .ref 127, .int (40) 0, .int (0) 0, .ref 148, .int (42) 0, .int (0) 0, .ref 155, .int (44) 0, .int (0) 0, .ref 162, .int (57) 0, .int (0) 0, .ref 169, .int (63) 0, .int (0) 0, .ref 176, .int (67) 0, .int (0) 0, .ref 183, .int (71) 0, .int (0) 0, .ref 190, .int (77) 0, .int (0) 0, .ref 197, .int (106) 0, .int (0) 0, .ref 239, .int (109) 0, .int (0) 0, .ref 246, .int (111) 0, .int (0) 0, .ref 253, .int (113) 0, .int (0) 0, .ref 260, .int (115) 0, .int (0) 0, .ref 267, .int (117) 0, .int (0) 0, .ref 274, .int (120) 0, .int (0) 0, .ref 281, .int (122) 0, .int (0) 0, .ref 288, .int (124) 0, .int (0) 0, .ref 295, .int (126) 0, .int (0) 0, .ref 302, .int (130) 0, .int (0) 0, .ref 309, .int (133) 0, .int (0) 0, .ref 316, .int (136) 0, .int (0) 0, .ref 323, .int (149) 0, .int (0) 0, .ref 330, .int (155) 0, .int (0) 0, .ref 337, .int (175) 0, .int (0) 0, .ref 344, .int (177) 0, .int (0) 0, .ref 351, .int (183) 0, .int (0) 0, .ref 361, .int (190) 0, .int (0) 0, .ref 368, .int (195) 0, .int (0) 0, .ref 375, .int (204) 0, .int (0) 0, .ref 382, .int (206) 0, .int (0) 0, .ref 389, .int (217) 0, .int (0) 0, .ref 396, .int (220) 0, .int (0) 0, .ref 403, .int (238) 0, .int (0) 0, .ref 410, .int (253) 0, .int (0) 0, .ref 417]), (List.toArray [])⟩
noncomputable def o355v367 (P : Params) : Obj := ⟨.type "tuple", none, .seq (List.toArray [.int (64) 677]) 0, (List.toArray [])⟩
noncomputable def o356v368 (P : Params) : Obj := ⟨.type "tuple", none, .seq (List.toArray []) 0, (List.toArray [])⟩
noncomputable def o357v369 (P : Params) : Obj := ⟨.none, none, .fields (List.toArray []), (List.toArray [])⟩
noncomputable def o358v370 (P : Params) : Obj := ⟨.type "tuple", none, .seq (List.toArray [.str (Str.ofString "value") 682, .str (Str.ofString "kind") 683, .str (Str.ofString "width") 684, .str (Str.ofString "count") 685]) 0, (List.toArray [])⟩
noncomputable def o359v371 (P : Params) : Obj := ⟨.type "tuple", none, .seq (List.toArray []) 0, (List.toArray [])⟩
noncomputable def o360v372 (P : Params) : Obj := ⟨.none, none, .func { name := (Str.ofString "plain_count"), qualname := (Str.ofString "plain_count"), params := parOf (stAt 44), body := .stmts (bodOf (stAt 44)), scope := scoOf (stAt 44), globals := 0, closure := [], defaults := .none, kwdefaults := .none, doc := .none, pyModule := .none, annotations := none, code := .none, closureTuple := .none, builtins := 0 }, (List.toArray [])⟩
noncomputable def o361v373 (P : Params) : Obj := ⟨.type "code", none, .fields (List.toArray [.str (Str.ofString "plain_count") 679, .str (Str.ofString "plain_count") 680, .str (Str.ofString "/claim/cut.py") 681, .int (183) 0, .int (3) 0, .int (0) 0, .int (0) 0, .int (3) 0, .ref 356, .bool true, .int (181) 0, .ref 357, .none, .ref 358, .ref 359, .ref 360, .int (686) 0, .int (183) 0, .str (Str.ofString "/claim/cut.py") 687]), (List.toArray [])⟩
noncomputable def o362v374 (P : Params) : Obj := ⟨.type "function", none, .func { name := (Str.ofString "plain_count"), qualname := (Str.ofString "plain_count"), params := parOf (stAt 44), body := .stmts (bodOf (stAt 44)), scope := scoOf (stAt 44), globals := 3, closure := [], defaults := .ref 355, kwdefaults := .none, doc := .none, pyModule := .str (Str.ofString "snobol.nodes") 664, annotations := none, code := .ref 361, closureTuple := .none, builtins := 0 }, (List.toArray [])⟩
noncomputable def o363v375 (P : Params) : Obj := ⟨.type "tuple", none, .seq (List.toArray []) 0, (List.toArray [])⟩
noncomputable def o364v376 (P : Params) : Obj := ⟨.none, none, .fields (List.toArray []), (List.toArray [])⟩
noncomputable def o365v377 (P : Params) : Obj := ⟨.type "tuple", none, .seq (List.toArray [.str (Str.ofString "value") 692, .str (Str.ofString "kind") 693, .str (Str.ofString "text") 694]) 0, (List.toArray [])⟩
noncomputable def o366v378 (P : Params) : Obj := ⟨.type "tuple", none, .seq (List.toArray []) 0, (List.toArray [])⟩
noncomputable def o367v379 (P : Params) : Obj := ⟨.none, none, .func { name := (Str.ofString "plain_signs"), qualname := (Str.ofString "plain_signs"), params := parOf (stAt 45), body := .stmts (bodOf (stAt 45)), scope := scoOf (stAt 45), globals := 0, closure := [], defaults := .none, kwdefaults := .none, doc := .none, pyModule := .none, annotations := none, code := .none, closureTuple := .none, builtins := 0 }, (List.toArray [])⟩
noncomputable def o368v380 (P : Params) : Obj := ⟨.type "code", none, .fields (List.toArray [.str (Str.ofString "plain_signs") 689, .str (Str.ofString "plain_signs") 690, .str (Str.ofString "/claim/cut.py") 691, .int (190) 0, .int (2) 0, .int (0) 0, .int (0) 0, .int (3) 0, .ref 363, .bool true, .int (181) 0, .ref 364, .none, .ref 365, .ref 366, .ref 367, .int (695) 0, .int (190) 0, .str (Str.ofString "/claim/cut.py") 696]), (List.toArray [])⟩
noncomputable def o369v381 (P : Params) : Obj := ⟨.type "function", none, .func { name := (Str.ofString "plain_signs"), qualname := (Str.ofString "plain_signs"), params := parOf (stAt 45), body := .stmts (bodOf (stAt 45)), scope := scoOf (stAt 45), globals := 3, closure := [], defaults := .none, kwdefaults := .none, doc := .none, pyModule := .str (Str.ofString "snobol.nodes") 664, annotations := none, code := .ref 368, closureTuple := .none, builtins := 0 }, (List.toArray [])⟩
noncomputable def o370v382 (P : Params) : Obj := ⟨.type "tuple", none, .seq (List.toArray []) 0, (List.toArray [])⟩
noncomputable def o371v383 (P : Params) : Obj := ⟨.none, none, .fields (List.toArray []), (List.toArray [])⟩
noncomputable def o372v384 (P : Params) : Obj := ⟨.type "tuple", none, .seq (List.toArray [.str (Str.ofString "value") 701, .str (Str.ofString "text") 702]) 0, (List.toArray [])⟩
noncomputable def o373v385 (P : Params) : Obj := ⟨.type "tuple", none, .seq (List.toArray []) 0, (List.toArray [])⟩
noncomputable def o374v386 (P : Params) : Obj := ⟨.none, none, .func { name := (Str.ofString "pattern_of"), qualname := (Str.ofString "pattern_of"), params := parOf (stAt 46), body := .stmts (bodOf (stAt 46)), scope := scoOf (stAt 46), globals := 0, closure := [], defaults := .none, kwdefaults := .none, doc := .none, pyModule := .none, annotations := none, code := .none, closureTuple := .none, builtins := 0 }, (List.toArray [])⟩
noncomputable def o375v387 (P : Params) : Obj := ⟨.type "code", none, .fields (List.toArray [.str (Str.ofString "pattern_of") 698, .str (Str.ofString "pattern_of") 699, .str (Str.ofString "/claim/cut.py") 700, .int (195) 0, .int (1) 0, .int (0) 0, .int (0) 0, .int (3) 0, .ref 370, .bool true, .int (181) 0, .ref 371, .none, .ref 372, .ref 373, .ref 374, .int (703) 0, .int (195) 0, .str (Str.ofString "/claim/cut.py") 704]), (List.toArray [])⟩
noncomputable def o376v388 (P : Params) : Obj := ⟨.type "function", none, .func { name := (Str.ofString "pattern_of"), qualname := (Str.ofString "pattern_of"), params := parOf (stAt 46), body := .stmts (bodOf (stAt 46)), scope := scoOf (stAt 46), globals := 3, closure := [], defaults := .none, kwdefaults := .none, doc := .none, pyModule := .str (Str.ofString "snobol.nodes") 664, annotations := none, code := .ref 375, closureTuple := .none, builtins := 0 }, (List.toArray [])⟩
noncomputable def o377v389 (P : Params) : Obj := ⟨.type "tuple", none, .seq (List.toArray []) 0, (List.toArray [])⟩
noncomputable def o378v390 (P : Params) : Obj := ⟨.none, none, .fields (List.toArray []), (List.toArray [])⟩
noncomputable def o379v391 (P : Params) : Obj := ⟨.type "tuple", none, .seq (List.toArray [.str (Str.ofString "told") 709]) 0, (List.toArray [])⟩
noncomputable def o380v392 (P : Params) : Obj := ⟨.type "tuple", none, .seq (List.toArray []) 0, (List.toArray [])⟩
noncomputable def o381v393 (P : Params) : Obj := ⟨.none, none, .func { name := (Str.ofString "is_delayed"), qualname := (Str.ofString "is_delayed"), params := parOf (stAt 47), body := .stmts (bodOf (stAt 47)), scope := scoOf (stAt 47), globals := 0, closure := [], defaults := .none, kwdefaults := .none, doc := .none, pyModule := .none, annotations := none, code := .none, closureTuple := .none, builtins := 0 }, (List.toArray [])⟩
noncomputable def o382v394 (P : Params) : Obj := ⟨.type "code", none, .fields (List.toArray [.str (Str.ofString "is_delayed") 706, .str (Str.ofString "is_delayed") 707, .str (Str.ofString "/claim/cut.py") 708, .int (204) 0, .int (1) 0, .int (0) 0, .int (0) 0, .int (3) 0, .ref 377, .bool true, .int (181) 0, .ref 378, .none, .ref 379, .ref 380, .ref 381, .int (710) 0, .int (204) 0, .str (Str.ofString "/claim/cut.py") 711]), (List.toArray [])⟩
noncomputable def o383v395 (P : Params) : Obj := ⟨.type "function", none, .func { name := (Str.ofString "is_delayed"), qualname := (Str.ofString "is_delayed"), params := parOf (stAt 47), body := .stmts (bodOf (stAt 47)), scope := scoOf (stAt 47), globals := 3, closure := [], defaults := .none, kwdefaults := .none, doc := .none, pyModule := .str (Str.ofString "snobol.nodes") 664, annotations := none, code := .ref 382, closureTuple := .none, builtins := 0 }, (List.toArray [])⟩
noncomputable def o384v396 (P : Params) : Obj := ⟨.type "tuple", none, .seq (List.toArray []) 0, (List.toArray [])⟩
noncomputable def o385v397 (P : Params) : Obj := ⟨.none, none, .fields (List.toArray []), (List.toArray [])⟩
noncomputable def o386v398 (P : Params) : Obj := ⟨.type "tuple", none, .seq (List.toArray [.str (Str.ofString "node") 716, .str (Str.ofString "host") 717, .str (Str.ofString "value") 718]) 0, (List.toArray [])⟩
noncomputable def o387v399 (P : Params) : Obj := ⟨.type "tuple", none, .seq (List.toArray []) 0, (List.toArray [])⟩
noncomputable def o388v400 (P : Params) : Obj := ⟨.none, none, .func { name := (Str.ofString "settled"), qualname := (Str.ofString "settled"), params := parOf (stAt 48), body := .stmts (bodOf (stAt 48)), scope := scoOf (stAt 48), globals := 0, closure := [], defaults := .none, kwdefaults := .none, doc := .none, pyModule := .none, annotations := none, code := .none, closureTuple := .none, builtins := 0 }, (List.toArray [])⟩
noncomputable def o389v401 (P : Params) : Obj := ⟨.type "code", none, .fields (List.toArray [.str (Str.ofString "settled") 713, .str (Str.ofString "settled") 714, .str (Str.ofString "/claim/cut.py") 715, .int (206) 0, .int (2) 0, .int (0) 0, .int (0) 0, .int (3) 0, .ref 384, .bool true, .int (181) 0, .ref 385, .none, .ref 386, .ref 387, .ref 388, .int (719) 0, .int (206) 0, .str (Str.ofString "/claim/cut.py") 720]), (List.toArray [])⟩
noncomputable def o390v402 (P : Params) : Obj := ⟨.type "function", none, .func { name := (Str.ofString "settled"), qualname := (Str.ofString "settled"), params := parOf (stAt 48), body := .stmts (bodOf (stAt 48)), scope := scoOf (stAt 48), globals := 3, closure := [], defaults := .none, kwdefaults := .none, doc := .none, pyModule := .str (Str.ofString "snobol.nodes") 664, annotations := none, code := .ref 389, closureTuple := .none, builtins := 0 }, (List.toArray [])⟩
noncomputable def o391v403 (P : Params) : Obj := ⟨.type "tuple", none, .seq (List.toArray []) 0, (List.toArray [])⟩
noncomputable def o392v404 (P : Params) : Obj := ⟨.none, none, .fields (List.toArray []), (List.toArray [])⟩
noncomputable def o393v405 (P : Params) : Obj := ⟨.type "tuple", none, .seq (List.toArray [.str (Str.ofString "node") 729, .str (Str.ofString "subject") 730, .str (Str.ofString "begin") 731, .str (Str.ofString "host") 732, .str (Str.ofString "found") 733]) 0, (List.toArray [])⟩
noncomputable def o394v406 (P : Params) : Obj := ⟨.type "tuple", none, .seq (List.toArray []) 0, (List.toArray [])⟩
noncomputable def o395v407 (P : Params) : Obj := ⟨.none, none, .func { name := (Str.ofString "match_at"), qualname := (Str.ofString "match_at"), params := parOf (stAt 51), body := .stmts (bodOf (stAt 51)), scope := scoOf (stAt 51), globals := 0, closure := [], defaults := .none, kwdefaults := .none, doc := .none, pyModule := .none, annotations := none, code := .none, closureTuple := .none, builtins := 0 }, (List.toArray [])⟩
noncomputable def o396v408 (P : Params) : Obj := ⟨.type "code", none, .fields (List.toArray [.str (Str.ofString "match_at") 726, .str (Str.ofString "match_at") 727, .str (Str.ofString "/claim/cut.py") 728, .int (217) 0, .int (4) 0, .int (0) 0, .int (0) 0, .int (3) 0, .ref 391, .bool true, .int (181) 0, .ref 392, .none, .ref 393, .ref 394, .ref 395, .int (734) 0, .int (217) 0, .str (Str.ofString "/claim/cut.py") 735]), (List.toArray [])⟩
noncomputable def o397v409 (P : Params) : Obj := ⟨.type "function", none, .func { name := (Str.ofString "match_at"), qualname := (Str.ofString "match_at"), params := parOf (stAt 51), body := .stmts (bodOf (stAt 51)), scope := scoOf (stAt 51), globals := 3, closure := [], defaults := .none, kwdefaults := .none, doc := .none, pyModule := .str (Str.ofString "snobol.trial") 722, annotations := none, code := .ref 396, closureTuple := .none, builtins := 0 }, (List.toArray [])⟩
noncomputable def o398v410 (P : Params) : Obj := ⟨.type "tuple", none, .seq (List.toArray []) 0, (List.toArray [])⟩
noncomputable def o399v411 (P : Params) : Obj := ⟨.none, none, .fields (List.toArray []), (List.toArray [])⟩
noncomputable def o400v412 (P : Params) : Obj := ⟨.type "tuple", none, .seq (List.toArray [.str (Str.ofString "node") 740, .str (Str.ofString "subject") 741, .str (Str.ofString "begin") 742, .str (Str.ofString "host") 743, .str (Str.ofString "pile") 744, .str (Str.ofString "way") 745, .str (Str.ofString "chain") 746, .str (Str.ofString "at") 747, .str (Str.ofString "named") 748]) 0, (List.toArray [])⟩
noncomputable def o401v413 (P : Params) : Obj := ⟨.type "tuple", none, .seq (List.toArray []) 0, (List.toArray [])⟩
noncomputable def o402v414 (P : Params) : Obj := ⟨.none, none, .func { name := (Str.ofString "tried"), qualname := (Str.ofString "tried"), params := parOf (stAt 52), body := .stmts (bodOf (stAt 52)), scope := scoOf (stAt 52), globals := 0, closure := [], defaults := .none, kwdefaults := .none, doc := .none, pyModule := .none, annotations := none, code := .none, closureTuple := .none, builtins := 0 }, (List.toArray [])⟩
noncomputable def o403v415 (P : Params) : Obj := ⟨.type "code", none, .fields (List.toArray [.str (Str.ofString "tried") 737, .str (Str.ofString "tried") 738, .str (Str.ofString "/claim/cut.py") 739, .int (220) 0, .int (4) 0, .int (0) 0, .int (0) 0, .int (3) 0, .ref 398, .bool true, .int (181) 0, .ref 399, .none, .ref 400, .ref 401, .ref 402, .int (749) 0, .int (220) 0, .str (Str.ofString "/claim/cut.py") 750]), (List.toArray [])⟩
noncomputable def o404v416 (P : Params) : Obj := ⟨.type "function", none, .func { name := (Str.ofString "tried"), qualname := (Str.ofString "tried"), params := parOf (stAt 52), body := .stmts (bodOf (stAt 52)), scope := scoOf (stAt 52), globals := 3, closure := [], defaults := .none, kwdefaults := .none, doc := .none, pyModule := .str (Str.ofString "snobol.trial") 722, annotations := none, code := .ref 403, closureTuple := .none, builtins := 0 }, (List.toArray [])⟩
noncomputable def o405v417 (P : Params) : Obj := ⟨.type "tuple", none, .seq (List.toArray []) 0, (List.toArray [])⟩
noncomputable def o406v418 (P : Params) : Obj := ⟨.none, none, .fields (List.toArray []), (List.toArray [])⟩
noncomputable def o407v419 (P : Params) : Obj := ⟨.type "tuple", none, .seq (List.toArray [.str (Str.ofString "chain") 755, .str (Str.ofString "at") 756, .str (Str.ofString "named") 757, .str (Str.ofString "subject") 758, .str (Str.ofString "pile") 759, .str (Str.ofString "host") 760, .str (Str.ofString "here") 761, .str (Str.ofString "rest") 762, .str (Str.ofString "kind") 763, .str (Str.ofString "value") 764]) 0, (List.toArray [])⟩
noncomputable def o408v420 (P : Params) : Obj := ⟨.type "tuple", none, .seq (List.toArray []) 0, (List.toArray [])⟩
noncomputable def o409v421 (P : Params) : Obj := ⟨.none, none, .func { name := (Str.ofString "advanced"), qualname := (Str.ofString "advanced"), params := parOf (stAt 53), body := .stmts (bodOf (stAt 53)), scope := scoOf (stAt 53), globals := 0, closure := [], defaults := .none, kwdefaults := .none, doc := .none, pyModule := .none, annotations := none, code := .none, closureTuple := .none, builtins := 0 }, (List.toArray [])⟩
noncomputable def o410v422 (P : Params) : Obj := ⟨.type "code", none, .fields (List.toArray [.str (Str.ofString "advanced") 752, .str (Str.ofString "advanced") 753, .str (Str.ofString "/claim/cut.py") 754, .int (238) 0, .int (6) 0, .int (0) 0, .int (0) 0, .int (3) 0, .ref 405, .bool true, .int (181) 0, .ref 406, .none, .ref 407, .ref 408, .ref 409, .int (765) 0, .int (238) 0, .str (Str.ofString "/claim/cut.py") 766]), (List.toArray [])⟩
noncomputable def o411v423 (P : Params) : Obj := ⟨.type "function", none, .func { name := (Str.ofString "advanced"), qualname := (Str.ofString "advanced"), params := parOf (stAt 53), body := .stmts (bodOf (stAt 53)), scope := scoOf (stAt 53), globals := 3, closure := [], defaults := .none, kwdefaults := .none, doc := .none, pyModule := .str (Str.ofString "snobol.trial") 722, annotations := none, code := .ref 410, closureTuple := .none, builtins := 0 }, (List.toArray [])⟩
noncomputable def o412v424 (P : Params) : Obj := ⟨.type "tuple", none, .seq (List.toArray []) 0, (List.toArray [])⟩
noncomputable def o413v425 (P : Params) : Obj := ⟨.none, none, .fields (List.toArray []), (List.toArray [])⟩
noncomputable def o414v426 (P : Params) : Obj := ⟨.type "tuple", none, .seq (List.toArray [.str (Str.ofString "here") 771, .str (Str.ofString "rest") 772, .str (Str.ofString "at") 773, .str (Str.ofString "named") 774, .str (Str.ofString "pile") 775, .str (Str.ofString "kind") 776]) 0, (List.toArray [])⟩
noncomputable def o415v427 (P : Params) : Obj := ⟨.type "tuple", none, .seq (List.toArray []) 0, (List.toArray [])⟩
noncomputable def o416v428 (P : Params) : Obj := ⟨.none, none, .func { name := (Str.ofString "led_in"), qualname := (Str.ofString "led_in"), params := parOf (stAt 54), body := .stmts (bodOf (stAt 54)), scope := scoOf (stAt 54), globals := 0, closure := [], defaults := .none, kwdefaults := .none, doc := .none, pyModule := .none, annotations := none, code := .none, closureTuple := .none, builtins := 0 }, (List.toArray [])⟩
noncomputable def o417v429 (P : Params) : Obj := ⟨.type "code", none, .fields (List.toArray [.str (Str.ofString "led_in") 768, .str (Str.ofString "led_in") 769, .str (Str.ofString "/claim/cut.py") 770, .int (253) 0, .int (5) 0, .int (0) 0, .int (0) 0, .int (3) 0, .ref 412, .bool true, .int (181) 0, .ref 413, .none, .ref 414, .ref 415, .ref 416, .int (777) 0, .int (253) 0, .str (Str.ofString "/claim/cut.py") 778]), (List.toArray [])⟩
noncomputable def o418v430 (P : Params) : Obj := ⟨.type "function", none, .func { name := (Str.ofString "led_in"), qualname := (Str.ofString "led_in"), params := parOf (stAt 54), body := .stmts (bodOf (stAt 54)), scope := scoOf (stAt 54), globals := 3, closure := [], defaults := .none, kwdefaults := .none, doc := .none, pyModule := .str (Str.ofString "snobol.trial") 722, annotations := none, code := .ref 417, closureTuple := .none, builtins := 0 }, (List.toArray [])⟩
noncomputable def T11 (P : Params) : BT := (.node (boot_o_0 P) (.node (boot_o_1 P) (.node (o3v365 P) (.node (boot_o_7 P) (.node (o15v6 P) (.node (o31v22 P) (.node (o63v57 P) (.node (o127v129 P) (.node (o255v263 P) .nil .nil) (.node (o383v395 P) .nil .nil)) (.node (o191v195 P) (.node (o319v329 P) .nil .nil) .nil)) (.node (o95v93 P) (.node (o159v161 P) (.node (o287v295 P) .nil .nil) (.node (o415v427 P) .nil .nil)) (.node (o223v229 P) (.node (o351v361 P) .nil .nil) .nil))) (.node (o47v41 P) (.node (o79v75 P) (.node (o143v145 P) (.node (o271v279 P) .nil .nil) (.node (o399v411 P) .nil .nil)) (.node (o207v213 P) (.node (o335v345 P) .nil .nil) .nil)) (.node (o111v111 P) (.node (o175v179 P) (.node (o303v313 P) .nil .nil) .nil) (.node (o239v247 P) (.node (o367v379 P) .nil .nil) .nil)))) (.node (o23v14 P) (.node (o39v30 P) (.node (o71v67 P) (.node (o135v137 P) (.node (o263v271 P) .nil .nil) (.node (o391v403 P) .nil .nil)) (.node (o199v205 P) (.node (o327v337 P) .nil .nil) .nil)) (.node (o103v103 P) (.node (o167v171 P) (.node (o295v303 P) .nil .nil) .nil) (.node (o231v237 P) (.node (o359v371 P) .nil .nil) .nil))) (.node (o55v49 P) (.node (o87v85 P) (.node (o151v153 P) (.node (o279v287 P) .nil .nil) (.node (o407v419 P) .nil .nil)) (.node (o215v221 P) (.node (o343v353 P) .nil .nil) .nil)) (.node (o119v119 P) (.node (o183v187 P) (.node (o311v321 P) .nil .nil) .nil) (.node (o247v255 P) (.node (o375v387 P) .nil .nil) .nil))))) (.node (o11v0 P) (.node (o19v10 P) (.node (o35v26 P) (.node (o67v63 P) (.node (o131v133 P) (.node (o259v267 P) .nil .nil) (.node (o387v399 P) .nil .nil)) (.node (o195v201 P) (.node (o323v333 P) .nil .nil) .nil)) (.node (o99v97 P) (.node (o163v165 P) (.node (o291v299 P) .nil .nil) .nil) (.node (o227v233 P) (.node (o355v367 P) .nil .nil) .nil))) (.node (o51v45 P) (.node (o83v81 P) (.node (o147v149 P) (.node (o275v283 P) .nil .nil) (.node (o403v415 P) .nil .nil)) (.node (o211v217 P) (.node (o339v349 P) .nil .nil) .nil)) (.node (o115v115 P) (.node (o179v183 P) (.node (o307v317 P) .nil .nil) .nil) (.node (o243v251 P) (.node (o371v383 P) .nil .nil) .nil)))) (.node (o27v18 P) (.node (o43v37 P) (.node (o75v71 P) (.node (o139v141 P) (.node (o267v275 P) .nil .nil) (.node (o395v407 P) .nil .nil)) (.node (o203v209 P) (.node (o331v341 P) .nil .nil) .nil)) (.node (o107v107 P) (.node (o171v175 P) (.node (o299v309 P) .nil .nil) .nil) (.node (o235v243 P) (.node (o363v375 P) .nil .nil) .nil))) (.node (o59v53 P) (.node (o91v89 P) (.node (o155v157 P) (.node (o283v291 P) .nil .nil) (.node (o411v423 P) .nil .nil)) (.node (o219v225 P) (.node (o347v357 P) .nil .nil) .nil)) (.node (o123v125 P) (.node (o187v191 P) (.node (o315v325 P) .nil .nil) .nil) (.node (o251v259 P) (.node (o379v391 P) .nil .nil) .nil)))))) (.node (boot_o_5 P) (.node (boot_o_9 P) (.node (o17v8 P) (.node (o33v24 P) (.node (o65v59 P) (.node (o129v131 P) (.node (o257v265 P) .nil .nil) (.node (o385v397 P) .nil .nil)) (.node (o193v199 P) (.node (o321v331 P) .nil .nil) .nil)) (.node (o97v95 P) (.node (o161v163 P) (.node (o289v297 P) .nil .nil) (.node (o417v429 P) .nil .nil)) (.node (o225v231 P) (.node (o353v363 P) .nil .nil) .nil))) (.node (o49v43 P) (.node (o81v79 P) (.node (o145v147 P) (.node (o273v281 P) .nil .nil) (.node (o401v413 P) .nil .nil)) (.node (o209v215 P) (.node (o337v347 P) .nil .nil) .nil)) (.node (o113v113 P) (.node (o177v181 P) (.node (o305v315 P) .nil .nil) .nil) (.node (o241v249 P) (.node (o369v381 P) .nil .nil) .nil)))) (.node (o25v16 P) (.node (o41v32 P) (.node (o73v69 P) (.node (o137v139 P) (.node (o265v273 P) .nil .nil) (.node (o393v405 P) .nil .nil)) (.node (o201v207 P) (.node (o329v339 P) .nil .nil) .nil)) (.node (o105v105 P) (.node (o169v173 P) (.node (o297v307 P) .nil .nil) .nil) (.node (o233v239 P) (.node (o361v373 P) .nil .nil) .nil))) (.node (o57v51 P) (.node (o89v87 P) (.node (o153v155 P) (.node (o281v289 P) .nil .nil) (.node (o409v421 P) .nil .nil)) (.node (o217v223 P) (.node (o345v355 P) .nil .nil) .nil)) (.node (o121v121 P) (.node (o185v189 P) (.node (o313v323 P) .nil .nil) .nil) (.node (o249v257 P) (.node (o377v389 P) .nil .nil) .nil))))) (.node (o13v2 P) (.node (o21v12 P) (.node (o37v28 P) (.node (o69v65 P) (.node (o133v135 P) (.node (o261v269 P) .nil .nil) (.node (o389v401 P) .nil .nil)) (.node (o197v203 P) (.node (o325v335 P) .nil .nil) .nil)) (.node (o101v101 P) (.node (o165v169 P) (.node (o293v301 P) .nil .nil) .nil) (.node (o229v235 P) (.node (o357v369 P) .nil .nil) .nil))) (.node (o53v47 P) (.node (o85v83 P) (.node (o149v151 P) (.node (o277v285 P) .nil .nil) (.node (o405v417 P) .nil .nil)) (.node (o213v219 P) (.node (o341v351 P) .nil .nil) .nil)) (.node (o117v117 P) (.node (o181v185 P) (.node (o309v319 P) .nil .nil) .nil) (.node (o245v253 P) (.node (o373v385 P) .nil .nil) .nil)))) (.node (o29v20 P) (.node (o45v39 P) (.node (o77v73 P) (.node (o141v143 P) (.node (o269v277 P) .nil .nil) (.node (o397v409 P) .nil .nil)) (.node (o205v211 P) (.node (o333v343 P) .nil .nil) .nil)) (.node (o109v109 P) (.node (o173v177 P) (.node (o301v311 P) .nil .nil) .nil) (.node (o237v245 P) (.node (o365v377 P) .nil .nil) .nil))) (.node (o61v55 P) (.node (o93v91 P) (.node (o157v159 P) (.node (o285v293 P) .nil .nil) (.node (o413v425 P) .nil .nil)) (.node (o221v227 P) (.node (o349v359 P) .nil .nil) .nil)) (.node (o125v127 P) (.node (o189v193 P) (.node (o317v327 P) .nil .nil) .nil) (.node (o253v261 P) (.node (o381v393 P) .nil .nil) .nil))))))) (.node (o2v34 P) (.node (boot_o_4 P) (.node (boot_o_8 P) (.node (o16v7 P) (.node (o32v23 P) (.node (o64v58 P) (.node (o128v130 P) (.node (o256v264 P) .nil .nil) (.node (o384v396 P) .nil .nil)) (.node (o192v198 P) (.node (o320v330 P) .nil .nil) .nil)) (.node (o96v94 P) (.node (o160v162 P) (.node (o288v296 P) .nil .nil) (.node (o416v428 P) .nil .nil)) (.node (o224v230 P) (.node (o352v362 P) .nil .nil) .nil))) (.node (o48v42 P) (.node (o80v78 P) (.node (o144v146 P) (.node (o272v280 P) .nil .nil) (.node (o400v412 P) .nil .nil)) (.node (o208v214 P) (.node (o336v346 P) .nil .nil) .nil)) (.node (o112v112 P) (.node (o176v180 P) (.node (o304v314 P) .nil .nil) .nil) (.node (o240v248 P) (.node (o368v380 P) .nil .nil) .nil)))) (.node (o24v15 P) (.node (o40v31 P) (.node (o72v68 P) (.node (o136v138 P) (.node (o264v272 P) .nil .nil) (.node (o392v404 P) .nil .nil)) (.node (o200v206 P) (.node (o328v338 P) .nil .nil) .nil)) (.node (o104v104 P) (.node (o168v172 P) (.node (o296v304 P) .nil .nil) .nil) (.node (o232v238 P) (.node (o360v372 P) .nil .nil) .nil))) (.node (o56v50 P) (.node (o88v86 P) (.node (o152v154 P) (.node (o280v288 P) .nil .nil) (.node (o408v420 P) .nil .nil)) (.node (o216v222 P) (.node (o344v354 P) .nil .nil) .nil)) (.node (o120v120 P) (.node (o184v188 P) (.node (o312v322 P) .nil .nil) .nil) (.node (o248v256 P) (.node (o376v388 P) .nil .nil) .nil))))) (.node (o12v366 P) (.node (o20v11 P) (.node (o36v27 P) (.node (o68v64 P) (.node (o132v134 P) (.node (o260v268 P) .nil .nil) (.node (o388v400 P) .nil .nil)) (.node (o196v202 P) (.node (o324v334 P) .nil .nil) .nil)) (.node (o100v98 P) (.node (o164v168 P) (.node (o292v300 P) .nil .nil) .nil) (.node (o228v234 P) (.node (o356v368 P) .nil .nil) .nil))) (.node (o52v46 P) (.node (o84v82 P) (.node (o148v150 P) (.node (o276v284 P) .nil .nil) (.node (o404v416 P) .nil .nil)) (.node (o212v218 P) (.node (o340v350 P) .nil .nil) .nil)) (.node (o116v116 P) (.node (o180v184 P) (.node (o308v318 P) .nil .nil) .nil) (.node (o244v252 P) (.node (o372v384 P) .nil .nil) .nil)))) (.node (o28v19 P) (.node (o44v38 P) (.node (o76v72 P) (.node (o140v142 P) (.node (o268v276 P) .nil .nil) (.node (o396v408 P) .nil .nil)) (.node (o204v210 P) (.node (o332v342 P) .nil .nil) .nil)) (.node (o108v108 P) (.node (o172v176 P) (.node (o300v310 P) .nil .nil) .nil) (.node (o236v244 P) (.node (o364v376 P) .nil .nil) .nil))) (.node (o60v54 P) (.node (o92v90 P) (.node (o156v158 P) (.node (o284v292 P) .nil .nil) (.node (o412v424 P) .nil .nil)) (.node (o220v226 P) (.node (o348v358 P) .nil .nil) .nil)) (.node (o124v126 P) (.node (o188v192 P) (.node (o316v326 P) .nil .nil) .nil) (.node (o252v260 P) (.node (o380v392 P) .nil .nil) .nil)))))) (.node (boot_o_6 P) (.node (boot_o_10 P) (.node (o18v9 P) (.node (o34v25 P) (.node (o66v62 P) (.node (o130v132 P) (.node (o258v266 P) .nil .nil) (.node (o386v398 P) .nil .nil)) (.node (o194v200 P) (.node (o322v332 P) .nil .nil) .nil)) (.node (o98v96 P) (.node (o162v164 P) (.node (o290v298 P) .nil .nil) (.node (o418v430 P) .nil .nil)) (.node (o226v232 P) (.node (o354v364 P) .nil .nil) .nil))) (.node (o50v44 P) (.node (o82v80 P) (.node (o146v148 P) (.node (o274v282 P) .nil .nil) (.node (o402v414 P) .nil .nil)) (.node (o210v216 P) (.node (o338v348 P) .nil .nil) .nil)) (.node (o114v114 P) (.node (o178v182 P) (.node (o306v316 P) .nil .nil) .nil) (.node (o242v250 P) (.node (o370v382 P) .nil .nil) .nil)))) (.node (o26v17 P) (.node (o42v33 P) (.node (o74v70 P) (.node (o138v140 P) (.node (o266v274 P) .nil .nil) (.node (o394v406 P) .nil .nil)) (.node (o202v208 P) (.node (o330v340 P) .nil .nil) .nil)) (.node (o106v106 P) (.node (o170v174 P) (.node (o298v308 P) .nil .nil) .nil) (.node (o234v242 P) (.node (o362v374 P) .nil .nil) .nil))) (.node (o58v52 P) (.node (o90v88 P) (.node (o154v156 P) (.node (o282v290 P) .nil .nil) (.node (o410v422 P) .nil .nil)) (.node (o218v224 P) (.node (o346v356 P) .nil .nil) .nil)) (.node (o122v124 P) (.node (o186v190 P) (.node (o314v324 P) .nil .nil) .nil) (.node (o250v258 P) (.node (o378v390 P) .nil .nil) .nil))))) (.node (o14v3 P) (.node (o22v13 P) (.node (o38v29 P) (.node (o70v66 P) (.node (o134v136 P) (.node (o262v270 P) .nil .nil) (.node (o390v402 P) .nil .nil)) (.node (o198v204 P) (.node (o326v336 P) .nil .nil) .nil)) (.node (o102v102 P) (.node (o166v170 P) (.node (o294v302 P) .nil .nil) .nil) (.node (o230v236 P) (.node (o358v370 P) .nil .nil) .nil))) (.node (o54v48 P) (.node (o86v84 P) (.node (o150v152 P) (.node (o278v286 P) .nil .nil) (.node (o406v418 P) .nil .nil)) (.node (o214v220 P) (.node (o342v352 P) .nil .nil) .nil)) (.node (o118v118 P) (.node (o182v186 P) (.node (o310v320 P) .nil .nil) .nil) (.node (o246v254 P) (.node (o374v386 P) .nil .nil) .nil)))) (.node (o30v21 P) (.node (o46v40 P) (.node (o78v74 P) (.node (o142v144 P) (.node (o270v278 P) .nil .nil) (.node (o398v410 P) .nil .nil)) (.node (o206v212 P) (.node (o334v344 P) .nil .nil) .nil)) (.node (o110v110 P) (.node (o174v178 P) (.node (o302v312 P) .nil .nil) .nil) (.node (o238v246 P) (.node (o366v378 P) .nil .nil) .nil))) (.node (o62v56 P) (.node (o94v92 P) (.node (o158v160 P) (.node (o286v294 P) .nil .nil) (.node (o414v426 P) .nil .nil)) (.node (o222v228 P) (.node (o350v360 P) .nil .nil) .nil)) (.node (o126v128 P) (.node (o190v194 P) (.node (o318v328 P) .nil .nil) .nil) (.node (o254v262 P) (.node (o382v394 P) .nil .nil) .nil))))))))
noncomputable def o3v431 (P : Params) : Obj := ⟨.type "dict", none, .dict (List.toArray [⟨PyData.keyHash P (Str.ofString "__name__"), .str (Str.ofString "__name__") 165, .str (Str.ofString "law_sj0197_01") 825⟩, ⟨PyData.keyHash P (Str.ofString "__doc__"), .str (Str.ofString "__doc__") 166, .none⟩, ⟨PyData.keyHash P (Str.ofString "__package__"), .str (Str.ofString "__package__") 167, .none⟩, ⟨PyData.keyHash P (Str.ofString "__loader__"), .str (Str.ofString "__loader__") 168, .builtin "__main__.__loader__#opaque"⟩, ⟨PyData.keyHash P (Str.ofString "__spec__"), .str (Str.ofString "__spec__") 169, .none⟩, ⟨PyData.keyHash P (Str.ofString "__annotations__"), .str (Str.ofString "__annotations__") 170, .ref 6⟩, ⟨PyData.keyHash P (Str.ofString "__builtins__"), .str (Str.ofString "__builtins__") 171, .ref 4⟩, ⟨PyData.keyHash P (Str.ofString "__file__"), .str (Str.ofString "__file__") 173, .str (Str.ofString "/claim/cut.py") 172⟩, ⟨PyData.keyHash P (Str.ofString "__cached__"), .str (Str.ofString "__cached__") 174, .none⟩, ⟨PyData.keyHash P (Str.ofString "give_names"), .str (Str.ofString "give_names") 198, .ref 21⟩, ⟨PyData.keyHash P (Str.ofString "three_pieces"), .str (Str.ofString "three_pieces") 206, .ref 28⟩, ⟨PyData.keyHash P (Str.ofString "spliced"), .str (Str.ofString "spliced") 218, .ref 35⟩, ⟨PyData.keyHash P (Str.ofString "replace_once"), .str (Str.ofString "replace_once") 232, .ref 42⟩, ⟨PyData.keyHash P (Str.ofString "SnobolError"), .str (Str.ofString "SnobolError") 268, .ref 62⟩, ⟨PyData.keyHash P (Str.ofString "Failure"), .str (Str.ofString "Failure") 288, .ref 75⟩, ⟨PyData.keyHash P (Str.ofString "Pattern"), .str (Str.ofString "Pattern") 317, .ref 96⟩, ⟨PyData.keyHash P (Str.ofString "Delayed"), .str (Str.ofString "Delayed") 346, .ref 117⟩, ⟨PyData.keyHash P (Str.ofString "NameRef"), .str (Str.ofString "NameRef") 379, .ref 138⟩, ⟨PyData.keyHash P (Str.ofString "is_fail"), .str (Str.ofString "is_fail") 386, .ref 149⟩, ⟨PyData.keyHash P (Str.ofString "fits"), .str (Str.ofString "fits") 394, .ref 156⟩, ⟨PyData.keyHash P (Str.ofString "whole_of_text"), .str (Str.ofString "whole_of_text") 405, .ref 163⟩, ⟨PyData.keyHash P (Str.ofString "text_of_whole"), .str (Str.ofString "text_of_whole") 414, .ref 170⟩, ⟨PyData.keyHash P (Str.ofString "to_whole"), .str (Str.ofString "to_whole") 422, .ref 177⟩, ⟨PyData.keyHash P (Str.ofString "to_text"), .str (Str.ofString "to_text") 429, .ref 184⟩, ⟨PyData.keyHash P (Str.ofString "need_text"), .str (Str.ofString "need_text") 437, .ref 191⟩, ⟨PyData.keyHash P (Str.ofString "PlainHost"), .str (Str.ofString "PlainHost") 499, .ref 229⟩, ⟨PyData.keyHash P (Str.ofString "OPENING"), .str (Str.ofString "OPENING") 503, .str (Str.ofString "(") 502⟩, ⟨PyData.keyHash P (Str.ofString "CLOSING"), .str (Str.ofString "CLOSING") 505, .str (Str.ofString ")") 504⟩, ⟨PyData.keyHash P (Str.ofString "chars_end"), .str (Str.ofString "chars_end") 515, .ref 240⟩, ⟨PyData.keyHash P (Str.ofString "len_end"), .str (Str.ofString "len_end") 524, .ref 247⟩, ⟨PyData.keyHash P (Str.ofString "pos_end"), .str (Str.ofString "pos_end") 532, .ref 254⟩, ⟨PyData.keyHash P (Str.ofString "rpos_end"), .str (Str.ofString "rpos_end") 541, .ref 261⟩, ⟨PyData.keyHash P (Str.ofString "tab_end"), .str (Str.ofString "tab_end") 550, .ref 268⟩, ⟨PyData.keyHash P (Str.ofString "rtab_end"), .str (Str.ofString "rtab_end") 560, .ref 275⟩, ⟨PyData.keyHash P (Str.ofString "rem_end"), .str (Str.ofString "rem_end") 567, .ref 282⟩, ⟨PyData.keyHash P (Str.ofString "any_at"), .str (Str.ofString "any_at") 576, .ref 289⟩, ⟨PyData.keyHash P (Str.ofString "notany_at"), .str (Str.ofString "notany_at") 585, .ref 296⟩, ⟨PyData.keyHash P (Str.ofString "run_end"), .str (Str.ofString "run_end") 595, .ref 303⟩, ⟨PyData.keyHash P (Str.ofString "span_end"), .str (Str.ofString "span_end") 605, .ref 310⟩, ⟨PyData.keyHash P (Str.ofString "break_end"), .str (Str.ofString "break_end") 615, .ref 317⟩, ⟨PyData.keyHash P (Str.ofString "bal_end"), .str (Str.ofString "bal_end") 624, .ref 324⟩, ⟨PyData.keyHash P (Str.ofString "bal_ends"), .str (Str.ofString "bal_ends") 634, .ref 331⟩, ⟨PyData.keyHash P (Str.ofString "one_end"), .str (Str.ofString "one_end") 644, .ref 338⟩, ⟨PyData.keyHash P (Str.ofString "plain_end"), .str (Str.ofString "plain_end") 653, .ref 345⟩, ⟨PyData.keyHash P (Str.ofString "replaced"), .str (Str.ofString "replaced") 663, .ref 352⟩, ⟨PyData.keyHash P (Str.ofString "COUNTED"), .str (Str.ofString "COUNTED") 671, .ref 353⟩, ⟨PyData.keyHash P (Str.ofString "SIGNED"), .str (Str.ofString "SIGNED") 676, .ref 354⟩, ⟨PyData.keyHash P (Str.ofString "WIDTH_OF_COUNT"), .str (Str.ofString "WIDTH_OF_COUNT") 678, .int (64) 677⟩, ⟨PyData.keyHash P (Str.ofString "plain_count"), .str (Str.ofString "plain_count") 688, .ref 362⟩, ⟨PyData.keyHash P (Str.ofString "plain_signs"), .str (Str.ofString "plain_signs") 697, .ref 369⟩, ⟨PyData.keyHash P (Str.ofString "pattern_of"), .str (Str.ofString "pattern_of") 705, .ref 376⟩, ⟨PyData.keyHash P (Str.ofString "is_delayed"), .str (Str.ofString "is_delayed") 712, .ref 383⟩, ⟨PyData.keyHash P (Str.ofString "settled"), .str (Str.ofString "settled") 721, .ref 390⟩, ⟨PyData.keyHash P (Str.ofString "LOST"), .str (Str.ofString "LOST") 725, .str (Str.ofString "lost") 724⟩, ⟨PyData.keyHash P (Str.ofString "match_at"), .str (Str.ofString "match_at") 736, .ref 397⟩, ⟨PyData.keyHash P (Str.ofString "tried"), .str (Str.ofString "tried") 751, .ref 404⟩, ⟨PyData.keyHash P (Str.ofString "advanced"), .str (Str.ofString "advanced") 767, .ref 411⟩, ⟨PyData.keyHash P (Str.ofString "led_in"), .str (Str.ofString "led_in") 779, .ref 418⟩, ⟨PyData.keyHash P (Str.ofString "led_out"), .str (Str.ofString "led_out") 795, .ref 425⟩, ⟨PyData.keyHash P (Str.ofString "steered"), .str (Str.ofString "steered") 807, .ref 432⟩, ⟨PyData.keyHash P (Str.ofString "taken"), .str (Str.ofString "taken") 824, .ref 439⟩, ⟨PyData.keyHash P (Str.ofString "_law_take"), .str (Str.ofString "_law_take") 834, .ref 446⟩, ⟨PyData.keyHash P (Str.ofString "_law_leaf"), .str (Str.ofString "_law_leaf") 843, .ref 453⟩, ⟨PyData.keyHash P (Str.ofString "_law_put"), .str (Str.ofString "_law_put") 852, .ref 460⟩, ⟨PyData.keyHash P (Str.ofString "_law_cut"), .str (Str.ofString "_law_cut") 868, .ref 467⟩, ⟨PyData.keyHash P (Str.ofString "_law_apart_right"), .str (Str.ofString "_law_apart_right") 874, .ref 472⟩, ⟨PyData.keyHash P (Str.ofString "law"), .str (Str.ofString "law") 880, .ref 477⟩]) 67, (List.toArray [])⟩
noncomputable def o12v432 (P : Params) : Obj := ⟨.none, none, .fields (List.toArray [.int (2) 0, .int (0) 0, .ref 20, .int (5) 0, .int (0) 0, .ref 27, .int (7) 0, .int (0) 0, .ref 34, .int (10) 0, .int (0) 0, .ref 41, .int (18) 0, .int (0) 0, .ref 49, .int (24) 0, .int (0) 0, .ref 71, .int (26) 0, .int (0) 0, .ref 85, .int (30) 0, .int (0) 0, .ref 106, .int (34) 0, .int (0) 0, .ref 127, .int (40) 0, .int (0) 0, .ref 148, .int (42) 0, .int (0) 0, .ref 155, .int (44) 0, .int (0) 0, .ref 162, .int (57) 0, .int (0) 0, .ref 169, .int (63) 0, .int (0) 0, .ref 176, .int (67) 0, .int (0) 0, .ref 183, .int (71) 0, .int (0) 0, .ref 190, .int (77) 0, .int (0) 0, .ref 197, .int (106) 0, .int (0) 0, .ref 239, .int (109) 0, .int (0) 0, .ref 246, .int (111) 0, .int (0) 0, .ref 253, .int (113) 0, .int (0) 0, .ref 260, .int (115) 0, .int (0) 0, .ref 267, .int (117) 0, .int (0) 0, .ref 274, .int (120) 0, .int (0) 0, .ref 281, .int (122) 0, .int (0) 0, .ref 288, .int (124) 0, .int (0) 0, .ref 295, .int (126) 0, .int (0) 0, .ref 302, .int (130) 0, .int (0) 0, .ref 309, .int (133) 0, .int (0) 0, .ref 316, .int (136) 0, .int (0) 0, .ref 323, .int (149) 0, .int (0) 0, .ref 330, .int (155) 0, .int (0) 0, .ref 337, .int (175) 0, .int (0) 0, .ref 344, .int (177) 0, .int (0) 0, .ref 351, .int (183) 0, .int (0) 0, .ref 361, .int (190) 0, .int (0) 0, .ref 368, .int (195) 0, .int (0) 0, .ref 375, .int (204) 0, .int (0) 0, .ref 382, .int (206) 0, .int (0) 0, .ref 389, .int (217) 0, .int (0) 0, .ref 396, .int (220) 0, .int (0) 0, .ref 403, .int (238) 0, .int (0) 0, .ref 410, .int (253) 0, .int (0) 0, .ref 417, .int (264) 0, .int (0) 0, .ref 424, .int (271) 0, .int (0) 0, .ref 431, .int (279) 0, .int (0) 0, .ref 438, .int (296) 0, .int (0) 0, .ref 445, .int (301) 0, .int (0) 0, .ref 452, .int (306) 0, .int (0) 0, .ref 459, .int (308) 0, .int (0) 0, .ref 466, .int (316) 0, .int (0) 0, .ref 471, .int (323) 0, .int (0) 0, .ref 476]), (List.toArray [])⟩
noncomputable def o419v433 (P : Params) : Obj := ⟨.type "tuple", none, .seq (List.toArray []) 0, (List.toArray [])⟩
noncomputable def o420v434 (P : Params) : Obj := ⟨.none, none, .fields (List.toArray []), (List.toArray [])⟩
noncomputable def o421v435 (P : Params) : Obj := ⟨.type "tuple", none, .seq (List.toArray [.str (Str.ofString "here") 783, .str (Str.ofString "rest") 784, .str (Str.ofString "at") 785, .str (Str.ofString "named") 786, .str (Str.ofString "subject") 787, .str (Str.ofString "pile") 788, .str (Str.ofString "host") 789, .str (Str.ofString "kind") 790, .str (Str.ofString "told") 791, .str (Str.ofString "begin") 792]) 0, (List.toArray [])⟩
noncomputable def o422v436 (P : Params) : Obj := ⟨.type "tuple", none, .seq (List.toArray []) 0, (List.toArray [])⟩
noncomputable def o423v437 (P : Params) : Obj := ⟨.none, none, .func { name := (Str.ofString "led_out"), qualname := (Str.ofString "led_out"), params := parOf (stAt 55), body := .stmts (bodOf (stAt 55)), scope := scoOf (stAt 55), globals := 0, closure := [], defaults := .none, kwdefaults := .none, doc := .none, pyModule := .none, annotations := none, code := .none, closureTuple := .none, builtins := 0 }, (List.toArray [])⟩
noncomputable def o424v438 (P : Params) : Obj := ⟨.type "code", none, .fields (List.toArray [.str (Str.ofString "led_out") 780, .str (Str.ofString "led_out") 781, .str (Str.ofString "/claim/cut.py") 782, .int (264) 0, .int (7) 0, .int (0) 0, .int (0) 0, .int (3) 0, .ref 419, .bool true, .int (181) 0, .ref 420, .none, .ref 421, .ref 422, .ref 423, .int (793) 0, .int (264) 0, .str (Str.ofString "/claim/cut.py") 794]), (List.toArray [])⟩
noncomputable def o425v439 (P : Params) : Obj := ⟨.type "function", none, .func { name := (Str.ofString "led_out"), qualname := (Str.ofString "led_out"), params := parOf (stAt 55), body := .stmts (bodOf (stAt 55)), scope := scoOf (stAt 55), globals := 3, closure := [], defaults := .none, kwdefaults := .none, doc := .none, pyModule := .str (Str.ofString "snobol.trial") 722, annotations := none, code := .ref 424, closureTuple := .none, builtins := 0 }, (List.toArray [])⟩
noncomputable def o426v440 (P : Params) : Obj := ⟨.type "tuple", none, .seq (List.toArray []) 0, (List.toArray [])⟩
noncomputable def o427v441 (P : Params) : Obj := ⟨.none, none, .fields (List.toArray []), (List.toArray [])⟩
noncomputable def o428v442 (P : Params) : Obj := ⟨.type "tuple", none, .seq (List.toArray [.str (Str.ofString "chain") 799, .str (Str.ofString "at") 800, .str (Str.ofString "named") 801, .str (Str.ofString "pile") 802, .str (Str.ofString "kind") 803, .str (Str.ofString "rest") 804]) 0, (List.toArray [])⟩
noncomputable def o429v443 (P : Params) : Obj := ⟨.type "tuple", none, .seq (List.toArray []) 0, (List.toArray [])⟩
noncomputable def o430v444 (P : Params) : Obj := ⟨.none, none, .func { name := (Str.ofString "steered"), qualname := (Str.ofString "steered"), params := parOf (stAt 56), body := .stmts (bodOf (stAt 56)), scope := scoOf (stAt 56), globals := 0, closure := [], defaults := .none, kwdefaults := .none, doc := .none, pyModule := .none, annotations := none, code := .none, closureTuple := .none, builtins := 0 }, (List.toArray [])⟩
noncomputable def o431v445 (P : Params) : Obj := ⟨.type "code", none, .fields (List.toArray [.str (Str.ofString "steered") 796, .str (Str.ofString "steered") 797, .str (Str.ofString "/claim/cut.py") 798, .int (271) 0, .int (4) 0, .int (0) 0, .int (0) 0, .int (3) 0, .ref 426, .bool true, .int (181) 0, .ref 427, .none, .ref 428, .ref 429, .ref 430, .int (805) 0, .int (271) 0, .str (Str.ofString "/claim/cut.py") 806]), (List.toArray [])⟩
noncomputable def o432v446 (P : Params) : Obj := ⟨.type "function", none, .func { name := (Str.ofString "steered"), qualname := (Str.ofString "steered"), params := parOf (stAt 56), body := .stmts (bodOf (stAt 56)), scope := scoOf (stAt 56), globals := 3, closure := [], defaults := .none, kwdefaults := .none, doc := .none, pyModule := .str (Str.ofString "snobol.trial") 722, annotations := none, code := .ref 431, closureTuple := .none, builtins := 0 }, (List.toArray [])⟩
noncomputable def o433v447 (P : Params) : Obj := ⟨.type "tuple", none, .seq (List.toArray []) 0, (List.toArray [])⟩
noncomputable def o434v448 (P : Params) : Obj := ⟨.none, none, .fields (List.toArray []), (List.toArray [])⟩
noncomputable def o435v449 (P : Params) : Obj := ⟨.type "tuple", none, .seq (List.toArray [.str (Str.ofString "here") 811, .str (Str.ofString "rest") 812, .str (Str.ofString "at") 813, .str (Str.ofString "named") 814, .str (Str.ofString "subject") 815, .str (Str.ofString "pile") 816, .str (Str.ofString "host") 817, .str (Str.ofString "kind") 818, .str (Str.ofString "ends") 819, .str (Str.ofString "end") 820, .str (Str.ofString "plain") 821]) 0, (List.toArray [])⟩
noncomputable def o436v450 (P : Params) : Obj := ⟨.type "tuple", none, .seq (List.toArray []) 0, (List.toArray [])⟩
noncomputable def o437v451 (P : Params) : Obj := ⟨.none, none, .func { name := (Str.ofString "taken"), qualname := (Str.ofString "taken"), params := parOf (stAt 57), body := .stmts (bodOf (stAt 57)), scope := scoOf (stAt 57), globals := 0, closure := [], defaults := .none, kwdefaults := .none, doc := .none, pyModule := .none, annotations := none, code := .none, closureTuple := .none, builtins := 0 }, (List.toArray [])⟩
noncomputable def o438v452 (P : Params) : Obj := ⟨.type "code", none, .fields (List.toArray [.str (Str.ofString "taken") 808, .str (Str.ofString "taken") 809, .str (Str.ofString "/claim/cut.py") 810, .int (279) 0, .int (7) 0, .int (0) 0, .int (0) 0, .int (3) 0, .ref 433, .bool true, .int (181) 0, .ref 434, .none, .ref 435, .ref 436, .ref 437, .int (822) 0, .int (279) 0, .str (Str.ofString "/claim/cut.py") 823]), (List.toArray [])⟩
noncomputable def o439v453 (P : Params) : Obj := ⟨.type "function", none, .func { name := (Str.ofString "taken"), qualname := (Str.ofString "taken"), params := parOf (stAt 57), body := .stmts (bodOf (stAt 57)), scope := scoOf (stAt 57), globals := 3, closure := [], defaults := .none, kwdefaults := .none, doc := .none, pyModule := .str (Str.ofString "snobol.trial") 722, annotations := none, code := .ref 438, closureTuple := .none, builtins := 0 }, (List.toArray [])⟩
noncomputable def o440v454 (P : Params) : Obj := ⟨.type "tuple", none, .seq (List.toArray []) 0, (List.toArray [])⟩
noncomputable def o441v455 (P : Params) : Obj := ⟨.none, none, .fields (List.toArray []), (List.toArray [])⟩
noncomputable def o442v456 (P : Params) : Obj := ⟨.type "tuple", none, .seq (List.toArray [.str (Str.ofString "box") 830, .str (Str.ofString "wide") 831]) 0, (List.toArray [])⟩
noncomputable def o443v457 (P : Params) : Obj := ⟨.type "tuple", none, .seq (List.toArray []) 0, (List.toArray [])⟩
noncomputable def o444v458 (P : Params) : Obj := ⟨.none, none, .func { name := (Str.ofString "_law_take"), qualname := (Str.ofString "_law_take"), params := parOf (stAt 59), body := .stmts (bodOf (stAt 59)), scope := scoOf (stAt 59), globals := 0, closure := [], defaults := .none, kwdefaults := .none, doc := .none, pyModule := .none, annotations := none, code := .none, closureTuple := .none, builtins := 0 }, (List.toArray [])⟩
noncomputable def o445v459 (P : Params) : Obj := ⟨.type "code", none, .fields (List.toArray [.str (Str.ofString "_law_take") 827, .str (Str.ofString "_law_take") 828, .str (Str.ofString "/claim/cut.py") 829, .int (296) 0, .int (2) 0, .int (0) 0, .int (0) 0, .int (3) 0, .ref 440, .bool true, .int (181) 0, .ref 441, .none, .ref 442, .ref 443, .ref 444, .int (832) 0, .int (296) 0, .str (Str.ofString "/claim/cut.py") 833]), (List.toArray [])⟩
noncomputable def o446v460 (P : Params) : Obj := ⟨.type "function", none, .func { name := (Str.ofString "_law_take"), qualname := (Str.ofString "_law_take"), params := parOf (stAt 59), body := .stmts (bodOf (stAt 59)), scope := scoOf (stAt 59), globals := 3, closure := [], defaults := .none, kwdefaults := .none, doc := .none, pyModule := .str (Str.ofString "law_sj0197_01") 825, annotations := none, code := .ref 445, closureTuple := .none, builtins := 0 }, (List.toArray [])⟩
noncomputable def o447v461 (P : Params) : Obj := ⟨.type "tuple", none, .seq (List.toArray []) 0, (List.toArray [])⟩
noncomputable def o448v462 (P : Params) : Obj := ⟨.none, none, .fields (List.toArray []), (List.toArray [])⟩
noncomputable def o449v463 (P : Params) : Obj := ⟨.type "tuple", none, .seq (List.toArray [.str (Str.ofString "box") 838, .str (Str.ofString "kind") 839, .str (Str.ofString "told") 840]) 0, (List.toArray [])⟩
noncomputable def o450v464 (P : Params) : Obj := ⟨.type "tuple", none, .seq (List.toArray []) 0, (List.toArray [])⟩
noncomputable def o451v465 (P : Params) : Obj := ⟨.none, none, .func { name := (Str.ofString "_law_leaf"), qualname := (Str.ofString "_law_leaf"), params := parOf (stAt 60), body := .stmts (bodOf (stAt 60)), scope := scoOf (stAt 60), globals := 0, closure := [], defaults := .none, kwdefaults := .none, doc := .none, pyModule := .none, annotations := none, code := .none, closureTuple := .none, builtins := 0 }, (List.toArray [])⟩
noncomputable def o452v466 (P : Params) : Obj := ⟨.type "code", none, .fields (List.toArray [.str (Str.ofString "_law_leaf") 835, .str (Str.ofString "_law_leaf") 836, .str (Str.ofString "/claim/cut.py") 837, .int (301) 0, .int (1) 0, .int (0) 0, .int (0) 0, .int (3) 0, .ref 447, .bool true, .int (181) 0, .ref 448, .none, .ref 449, .ref 450, .ref 451, .int (841) 0, .int (301) 0, .str (Str.ofString "/claim/cut.py") 842]), (List.toArray [])⟩
noncomputable def o453v467 (P : Params) : Obj := ⟨.type "function", none, .func { name := (Str.ofString "_law_leaf"), qualname := (Str.ofString "_law_leaf"), params := parOf (stAt 60), body := .stmts (bodOf (stAt 60)), scope := scoOf (stAt 60), globals := 3, closure := [], defaults := .none, kwdefaults := .none, doc := .none, pyModule := .str (Str.ofString "law_sj0197_01") 825, annotations := none, code := .ref 452, closureTuple := .none, builtins := 0 }, (List.toArray [])⟩
noncomputable def o454v468 (P : Params) : Obj := ⟨.type "tuple", none, .seq (List.toArray []) 0, (List.toArray [])⟩
noncomputable def o455v469 (P : Params) : Obj := ⟨.none, none, .fields (List.toArray []), (List.toArray [])⟩
noncomputable def o456v470 (P : Params) : Obj := ⟨.type "tuple", none, .seq (List.toArray [.str (Str.ofString "form") 847, .str (Str.ofString "word") 848, .str (Str.ofString "rest") 849]) 0, (List.toArray [])⟩
noncomputable def o457v471 (P : Params) : Obj := ⟨.type "tuple", none, .seq (List.toArray []) 0, (List.toArray [])⟩
noncomputable def o458v472 (P : Params) : Obj := ⟨.none, none, .func { name := (Str.ofString "_law_put"), qualname := (Str.ofString "_law_put"), params := parOf (stAt 61), body := .stmts (bodOf (stAt 61)), scope := scoOf (stAt 61), globals := 0, closure := [], defaults := .none, kwdefaults := .none, doc := .none, pyModule := .none, annotations := none, code := .none, closureTuple := .none, builtins := 0 }, (List.toArray [])⟩
noncomputable def o459v473 (P : Params) : Obj := ⟨.type "code", none, .fields (List.toArray [.str (Str.ofString "_law_put") 844, .str (Str.ofString "_law_put") 845, .str (Str.ofString "/claim/cut.py") 846, .int (306) 0, .int (3) 0, .int (0) 0, .int (0) 0, .int (3) 0, .ref 454, .bool true, .int (181) 0, .ref 455, .none, .ref 456, .ref 457, .ref 458, .int (850) 0, .int (306) 0, .str (Str.ofString "/claim/cut.py") 851]), (List.toArray [])⟩
noncomputable def o460v474 (P : Params) : Obj := ⟨.type "function", none, .func { name := (Str.ofString "_law_put"), qualname := (Str.ofString "_law_put"), params := parOf (stAt 61), body := .stmts (bodOf (stAt 61)), scope := scoOf (stAt 61), globals := 3, closure := [], defaults := .none, kwdefaults := .none, doc := .none, pyModule := .str (Str.ofString "law_sj0197_01") 825, annotations := none, code := .ref 459, closureTuple := .none, builtins := 0 }, (List.toArray [])⟩
noncomputable def o461v475 (P : Params) : Obj := ⟨.type "tuple", none, .seq (List.toArray []) 0, (List.toArray [])⟩
noncomputable def o462v476 (P : Params) : Obj := ⟨.none, none, .fields (List.toArray []), (List.toArray [])⟩
noncomputable def o463v477 (P : Params) : Obj := ⟨.type "tuple", none, .seq (List.toArray [.str (Str.ofString "pieces") 856, .str (Str.ofString "begin") 857, .str (Str.ofString "end") 858, .str (Str.ofString "found") 859, .str (Str.ofString "at") 860, .str (Str.ofString "number") 861, .str (Str.ofString "first") 862, .str (Str.ofString "last") 863, .str (Str.ofString "low") 864, .str (Str.ofString "high") 865]) 0, (List.toArray [])⟩
noncomputable def o464v478 (P : Params) : Obj := ⟨.type "tuple", none, .seq (List.toArray []) 0, (List.toArray [])⟩
noncomputable def o465v479 (P : Params) : Obj := ⟨.none, none, .func { name := (Str.ofString "_law_cut"), qualname := (Str.ofString "_law_cut"), params := parOf (stAt 62), body := .stmts (bodOf (stAt 62)), scope := scoOf (stAt 62), globals := 0, closure := [], defaults := .none, kwdefaults := .none, doc := .none, pyModule := .none, annotations := none, code := .none, closureTuple := .none, builtins := 0 }, (List.toArray [])⟩
noncomputable def o466v480 (P : Params) : Obj := ⟨.type "code", none, .fields (List.toArray [.str (Str.ofString "_law_cut") 853, .str (Str.ofString "_law_cut") 854, .str (Str.ofString "/claim/cut.py") 855, .int (308) 0, .int (3) 0, .int (0) 0, .int (0) 0, .int (3) 0, .ref 461, .bool true, .int (181) 0, .ref 462, .none, .ref 463, .ref 464, .ref 465, .int (866) 0, .int (308) 0, .str (Str.ofString "/claim/cut.py") 867]), (List.toArray [])⟩
noncomputable def o467v481 (P : Params) : Obj := ⟨.type "function", none, .func { name := (Str.ofString "_law_cut"), qualname := (Str.ofString "_law_cut"), params := parOf (stAt 62), body := .stmts (bodOf (stAt 62)), scope := scoOf (stAt 62), globals := 3, closure := [], defaults := .none, kwdefaults := .none, doc := .none, pyModule := .str (Str.ofString "law_sj0197_01") 825, annotations := none, code := .ref 466, closureTuple := .none, builtins := 0 }, (List.toArray [])⟩
noncomputable def o468v482 (P : Params) : Obj := ⟨.type "tuple", none, .seq (List.toArray []) 0, (List.toArray [])⟩
noncomputable def o469v483 (P : Params) : Obj := ⟨.none, none, .fields (List.toArray []), (List.toArray [])⟩
noncomputable def o470v484 (P : Params) : Obj := ⟨.none, none, .func { name := (Str.ofString "_law_apart_right"), qualname := (Str.ofString "_law_apart_right"), params := parOf (stAt 63), body := .stmts (bodOf (stAt 63)), scope := scoOf (stAt 63), globals := 0, closure := [], defaults := .none, kwdefaults := .none, doc := .none, pyModule := .none, annotations := none, code := .none, closureTuple := .none, builtins := 0 }, (List.toArray [])⟩
noncomputable def o471v485 (P : Params) : Obj := ⟨.type "code", none, .fields (List.toArray [.str (Str.ofString "_law_apart_right") 869, .str (Str.ofString "_law_apart_right") 870, .str (Str.ofString "/claim/cut.py") 871, .int (316) 0, .int (2) 0, .int (0) 0, .int (0) 0, .int (3) 0, .ref 468, .bool true, .int (181) 0, .ref 469, .none, .none, .none, .ref 470, .int (872) 0, .int (316) 0, .str (Str.ofString "/claim/cut.py") 873]), (List.toArray [])⟩
noncomputable def o472v486 (P : Params) : Obj := ⟨.type "function", none, .func { name := (Str.ofString "_law_apart_right"), qualname := (Str.ofString "_law_apart_right"), params := parOf (stAt 63), body := .stmts (bodOf (stAt 63)), scope := scoOf (stAt 63), globals := 3, closure := [], defaults := .none, kwdefaults := .none, doc := .none, pyModule := .str (Str.ofString "law_sj0197_01") 825, annotations := none, code := .ref 471, closureTuple := .none, builtins := 0 }, (List.toArray [])⟩
noncomputable def o473v487 (P : Params) : Obj := ⟨.type "tuple", none, .seq (List.toArray []) 0, (List.toArray [])⟩
noncomputable def o474v488 (P : Params) : Obj := ⟨.none, none, .fields (List.toArray []), (List.toArray [])⟩
noncomputable def o475v489 (P : Params) : Obj := ⟨.none, none, .func { name := (Str.ofString "law"), qualname := (Str.ofString "law"), params := parOf (stAt 64), body := .stmts (bodOf (stAt 64)), scope := scoOf (stAt 64), globals := 0, closure := [], defaults := .none, kwdefaults := .none, doc := .none, pyModule := .none, annotations := none, code := .none, closureTuple := .none, builtins := 0 }, (List.toArray [])⟩
noncomputable def o476v490 (P : Params) : Obj := ⟨.type "code", none, .fields (List.toArray [.str (Str.ofString "law") 875, .str (Str.ofString "law") 876, .str (Str.ofString "/claim/cut.py") 877, .int (323) 0, .int (1) 0, .int (0) 0, .int (0) 0, .int (3) 0, .ref 473, .bool true, .int (181) 0, .ref 474, .none, .none, .none, .ref 475, .int (878) 0, .int (323) 0, .str (Str.ofString "/claim/cut.py") 879]), (List.toArray [])⟩
noncomputable def o477v491 (P : Params) : Obj := ⟨.type "function", none, .func { name := (Str.ofString "law"), qualname := (Str.ofString "law"), params := parOf (stAt 64), body := .stmts (bodOf (stAt 64)), scope := scoOf (stAt 64), globals := 3, closure := [], defaults := .none, kwdefaults := .none, doc := .none, pyModule := .str (Str.ofString "law_sj0197_01") 825, annotations := none, code := .ref 476, closureTuple := .none, builtins := 0 }, (List.toArray [])⟩
noncomputable def T12 (P : Params) : BT := (.node (boot_o_0 P) (.node (boot_o_1 P) (.node (o3v431 P) (.node (boot_o_7 P) (.node (o15v6 P) (.node (o31v22 P) (.node (o63v57 P) (.node (o127v129 P) (.node (o255v263 P) .nil .nil) (.node (o383v395 P) .nil .nil)) (.node (o191v195 P) (.node (o319v329 P) .nil .nil) (.node (o447v461 P) .nil .nil))) (.node (o95v93 P) (.node (o159v161 P) (.node (o287v295 P) .nil .nil) (.node (o415v427 P) .nil .nil)) (.node (o223v229 P) (.node (o351v361 P) .nil .nil) .nil))) (.node (o47v41 P) (.node (o79v75 P) (.node (o143v145 P) (.node (o271v279 P) .nil .nil) (.node (o399v411 P) .nil .nil)) (.node (o207v213 P) (.node (o335v345 P) .nil .nil) (.node (o463v477 P) .nil .nil))) (.node (o111v111 P) (.node (o175v179 P) (.node (o303v313 P) .nil .nil) (.node (o431v445 P) .nil .nil)) (.node (o239v247 P) (.node (o367v379 P) .nil .nil) .nil)))) (.node (o23v14 P) (.node (o39v30 P) (.node (o71v67 P) (.node (o135v137 P) (.node (o263v271 P) .nil .nil) (.node (o391v403 P) .nil .nil)) (.node (o199v205 P) (.node (o327v337 P) .nil .nil) (.node (o455v469 P) .nil .nil))) (.node (o103v103 P) (.node (o167v171 P) (.node (o295v303 P) .nil .nil) (.node (o423v437 P) .nil .nil)) (.node (o231v237 P) (.node (o359v371 P) .nil .nil) .nil))) (.node (o55v49 P) (.node (o87v85 P) (.node (o151v153 P) (.node (o279v287 P) .nil .nil) (.node (o407v419 P) .nil .nil)) (.node (o215v221 P) (.node (o343v353 P) .nil .nil) (.node (o471v485 P) .nil .nil))) (.node (o119v119 P) (.node (o183v187 P) (.node (o311v321 P) .nil .nil) (.node (o439v453 P) .nil .nil)) (.node (o247v255 P) (.node (o375v387 P) .nil .nil) .nil))))) (.node (o11v0 P) (.node (o19v10 P) (.node (o35v26 P) (.node (o67v63 P) (.node (o131v133 P) (.node (o259v267 P) .nil .nil) (.node (o387v399 P) .nil .nil)) (.node (o195v201 P) (.node (o323v333 P) .nil .nil) (.node (o451v465 P) .nil .nil))) (.node (o99v97 P) (.node (o163v165 P) (.node (o291v299 P) .nil .nil) (.node (o419v433 P) .nil .nil)) (.node (o227v233 P) (.node (o355v367 P) .nil .nil) .nil))) (.node (o51v45 P) (.node (o83v81 P) (.node (o147v149 P) (.node (o275v283 P) .nil .nil) (.node (o403v415 P) .nil .nil)) (.node (o211v217 P) (.node (o339v349 P) .nil .nil) (.node (o467v481 P) .nil .nil))) (.node (o115v115 P) (.node (o179v183 P) (.node (o307v317 P) .nil .nil) (.node (o435v449 P) .nil .nil)) (.node (o243v251 P) (.node (o371v383 P) .nil .nil) .nil)))) (.node (o27v18 P) (.node (o43v37 P) (.node (o75v71 P) (.node (o139v141 P) (.node (o267v275 P) .nil .nil) (.node (o395v407 P) .nil .nil)) (.node (o203v209 P) (.node (o331v341 P) .nil .nil) (.node (o459v473 P) .nil .nil))) (.node (o107v107 P) (.node (o171v175 P) (.node (o299v309 P) .nil .nil) (.node (o427v441 P) .nil .nil)) (.node (o235v243 P) (.node (o363v375 P) .nil .nil) .nil))) (.node (o59v53 P) (.node (o91v89 P) (.node (o155v157 P) (.node (o283v291 P) .nil .nil) (.node (o411v423 P) .nil .nil)) (.node (o219v225 P) (.node (o347v357 P) .nil .nil) (.node (o475v489 P) .nil .nil))) (.node (o123v125 P) (.node (o187v191 P) (.node (o315v325 P) .nil .nil) (.node (o443v457 P) .nil .nil)) (.node (o251v259 P) (.node (o379v391 P) .nil .nil) .nil)))))) (.node (boot_o_5 P) (.node (boot_o_9 P) (.node (o17v8 P) (.node (o33v24 P) (.node (o65v59 P) (.node (o129v131 P) (.node (o257v265 P) .nil .nil) (.node (o385v397 P) .nil .nil)) (.node (o193v199 P) (.node (o321v331 P) .nil .nil) (.node (o449v463 P) .nil .nil))) (.node (o97v95 P) (.node (o161v163 P) (.node (o289v297 P) .nil .nil) (.node (o417v429 P) .nil .nil)) (.node (o225v231 P) (.node (o353v363 P) .nil .nil) .nil))) (.node (o49v43 P) (.node (o81v79 P) (.node (o145v147 P) (.node (o273v281 P) .nil .nil) (.node (o401v413 P) .nil .nil)) (.node (o209v215 P) (.node (o337v347 P) .nil .nil) (.node (o465v479 P) .nil .nil))) (.node (o113v113 P) (.node (o177v181 P) (.node (o305v315 P) .nil .nil) (.node (o433v447 P) .nil .nil)) (.node (o241v249 P) (.node (o369v381 P) .nil .nil) .nil)))) (.node (o25v16 P) (.node (o41v32 P) (.node (o73v69 P) (.node (o137v139 P) (.node (o265v273 P) .nil .nil) (.node (o393v405 P) .nil .nil)) (.node (o201v207 P) (.node (o329v339 P) .nil .nil) (.node (o457v471 P) .nil .nil))) (.node (o105v105 P) (.node (o169v173 P) (.node (o297v307 P) .nil .nil) (.node (o425v439 P) .nil .nil)) (.node (o233v239 P) (.node (o361v373 P) .nil .nil) .nil))) (.node (o57v51 P) (.node (o89v87 P) (.node (o153v155 P) (.node (o281v289 P) .nil .nil) (.node (o409v421 P) .nil .nil)) (.node (o217v223 P) (.node (o345v355 P) .nil .nil) (.node (o473v487 P) .nil .nil))) (.node (o121v121 P) (.node (o185v189 P) (.node (o313v323 P) .nil .nil) (.node (o441v455 P) .nil .nil)) (.node (o249v257 P) (.node (o377v389 P) .nil .nil) .nil))))) (.node (o13v2 P) (.node (o21v12 P) (.node (o37v28 P) (.node (o69v65 P) (.node (o133v135 P) (.node (o261v269 P) .nil .nil) (.node (o389v401 P) .nil .nil)) (.node (o197v203 P) (.node (o325v335 P) .nil .nil) (.node (o453v467 P) .nil .nil))) (.node (o101v101 P) (.node (o165v169 P) (.node (o293v301 P) .nil .nil) (.node (o421v435 P) .nil .nil)) (.node (o229v235 P) (.node (o357v369 P) .nil .nil) .nil))) (.node (o53v47 P) (.node (o85v83 P) (.node (o149v151 P) (.node (o277v285 P) .nil .nil) (.node (o405v417 P) .nil .nil)) (.node (o213v219 P) (.node (o341v351 P) .nil .nil) (.node (o469v483 P) .nil .nil))) (.node (o117v117 P) (.node (o181v185 P) (.node (o309v319 P) .nil .nil) (.node (o437v451 P) .nil .nil)) (.node (o245v253 P) (.node (o373v385 P) .nil .nil) .nil)))) (.node (o29v20 P) (.node (o45v39 P) (.node (o77v73 P) (.node (o141v143 P) (.node (o269v277 P) .nil .nil) (.node (o397v409 P) .nil .nil)) (.node (o205v211 P) (.node (o333v343 P) .nil .nil) (.node (o461v475 P) .nil .nil))) (.node (o109v109 P) (.node (o173v177 P) (.node (o301v311 P) .nil .nil) (.node (o429v443 P) .nil .nil)) (.node (o237v245 P) (.node (o365v377 P) .nil .nil) .nil))) (.node (o61v55 P) (.node (o93v91 P) (.node (o157v159 P) (.node (o285v293 P) .nil .nil) (.node (o413v425 P) .nil .nil)) (.node (o221v227 P) (.node (o349v359 P) .nil .nil) (.node (o477v491 P) .nil .nil))) (.node (o125v127 P) (.node (o189v193 P) (.node (o317v327 P) .nil .nil) (.node (o445v459 P) .nil .nil)) (.node (o253v261 P) (.node (o381v393 P) .nil .nil) .nil))))))) (.node (o2v34 P) (.node (boot_o_4 P) (.node (boot_o_8 P) (.node (o16v7 P) (.node (o32v23 P) (.node (o64v58 P) (.node (o128v130 P) (.node (o256v264 P) .nil .nil) (.node (o384v396 P) .nil .nil)) (.node (o192v198 P) (.node (o320v330 P) .nil .nil) (.node (o448v462 P) .nil .nil))) (.node (o96v94 P) (.node (o160v162 P) (.node (o288v296 P) .nil .nil) (.node (o416v428 P) .nil .nil)) (.node (o224v230 P) (.node (o352v362 P) .nil .nil) .nil))) (.node (o48v42 P) (.node (o80v78 P) (.node (o144v146 P) (.node (o272v280 P) .nil .nil) (.node (o400v412 P) .nil .nil)) (.node (o208v214 P) (.node (o336v346 P) .nil .nil) (.node (o464v478 P) .nil .nil))) (.node (o112v112 P) (.node (o176v180 P) (.node (o304v314 P) .nil .nil) (.node (o432v446 P) .nil .nil)) (.node (o240v248 P) (.node (o368v380 P) .nil .nil) .nil)))) (.node (o24v15 P) (.node (o40v31 P) (.node (o72v68 P) (.node (o136v138 P) (.node (o264v272 P) .nil .nil) (.node (o392v404 P) .nil .nil)) (.node (o200v206 P) (.node (o328v338 P) .nil .nil) (.node (o456v470 P) .nil .nil))) (.node (o104v104 P) (.node (o168v172 P) (.node (o296v304 P) .nil .nil) (.node (o424v438 P) .nil .nil)) (.node (o232v238 P) (.node (o360v372 P) .nil .nil) .nil))) (.node (o56v50 P) (.node (o88v86 P) (.node (o152v154 P) (.node (o280v288 P) .nil .nil) (.node (o408v420 P) .nil .nil)) (.node (o216v222 P) (.node (o344v354 P) .nil .nil) (.node (o472v486 P) .nil .nil))) (.node (o120v120 P) (.node (o184v188 P) (.node (o312v322 P) .nil .nil) (.node (o440v454 P) .nil .nil)) (.node (o248v256 P) (.node (o376v388 P) .nil .nil) .nil))))) (.node (o12v432 P) (.node (o20v11 P) (.node (o36v27 P) (.node (o68v64 P) (.node (o132v134 P) (.node (o260v268 P) .nil .nil) (.node (o388v400 P) .nil .nil)) (.node (o196v202 P) (.node (o324v334 P) .nil .nil) (.node (o452v466 P) .nil .nil))) (.node (o100v98 P) (.node (o164v168 P) (.node (o292v300 P) .nil .nil) (.node (o420v434 P) .nil .nil)) (.node (o228v234 P) (.node (o356v368 P) .nil .nil) .nil))) (.node (o52v46 P) (.node (o84v82 P) (.node (o148v150 P) (.node (o276v284 P) .nil .nil) (.node (o404v416 P) .nil .nil)) (.node (o212v218 P) (.node (o340v350 P) .nil .nil) (.node (o468v482 P) .nil .nil))) (.node (o116v116 P) (.node (o180v184 P) (.node (o308v318 P) .nil .nil) (.node (o436v450 P) .nil .nil)) (.node (o244v252 P) (.node (o372v384 P) .nil .nil) .nil)))) (.node (o28v19 P) (.node (o44v38 P) (.node (o76v72 P) (.node (o140v142 P) (.node (o268v276 P) .nil .nil) (.node (o396v408 P) .nil .nil)) (.node (o204v210 P) (.node (o332v342 P) .nil .nil) (.node (o460v474 P) .nil .nil))) (.node (o108v108 P) (.node (o172v176 P) (.node (o300v310 P) .nil .nil) (.node (o428v442 P) .nil .nil)) (.node (o236v244 P) (.node (o364v376 P) .nil .nil) .nil))) (.node (o60v54 P) (.node (o92v90 P) (.node (o156v158 P) (.node (o284v292 P) .nil .nil) (.node (o412v424 P) .nil .nil)) (.node (o220v226 P) (.node (o348v358 P) .nil .nil) (.node (o476v490 P) .nil .nil))) (.node (o124v126 P) (.node (o188v192 P) (.node (o316v326 P) .nil .nil) (.node (o444v458 P) .nil .nil)) (.node (o252v260 P) (.node (o380v392 P) .nil .nil) .nil)))))) (.node (boot_o_6 P) (.node (boot_o_10 P) (.node (o18v9 P) (.node (o34v25 P) (.node (o66v62 P) (.node (o130v132 P) (.node (o258v266 P) .nil .nil) (.node (o386v398 P) .nil .nil)) (.node (o194v200 P) (.node (o322v332 P) .nil .nil) (.node (o450v464 P) .nil .nil))) (.node (o98v96 P) (.node (o162v164 P) (.node (o290v298 P) .nil .nil) (.node (o418v430 P) .nil .nil)) (.node (o226v232 P) (.node (o354v364 P) .nil .nil) .nil))) (.node (o50v44 P) (.node (o82v80 P) (.node (o146v148 P) (.node (o274v282 P) .nil .nil) (.node (o402v414 P) .nil .nil)) (.node (o210v216 P) (.node (o338v348 P) .nil .nil) (.node (o466v480 P) .nil .nil))) (.node (o114v114 P) (.node (o178v182 P) (.node (o306v316 P) .nil .nil) (.node (o434v448 P) .nil .nil)) (.node (o242v250 P) (.node (o370v382 P) .nil .nil) .nil)))) (.node (o26v17 P) (.node (o42v33 P) (.node (o74v70 P) (.node (o138v140 P) (.node (o266v274 P) .nil .nil) (.node (o394v406 P) .nil .nil)) (.node (o202v208 P) (.node (o330v340 P) .nil .nil) (.node (o458v472 P) .nil .nil))) (.node (o106v106 P) (.node (o170v174 P) (.node (o298v308 P) .nil .nil) (.node (o426v440 P) .nil .nil)) (.node (o234v242 P) (.node (o362v374 P) .nil .nil) .nil))) (.node (o58v52 P) (.node (o90v88 P) (.node (o154v156 P) (.node (o282v290 P) .nil .nil) (.node (o410v422 P) .nil .nil)) (.node (o218v224 P) (.node (o346v356 P) .nil .nil) (.node (o474v488 P) .nil .nil))) (.node (o122v124 P) (.node (o186v190 P) (.node (o314v324 P) .nil .nil) (.node (o442v456 P) .nil .nil)) (.node (o250v258 P) (.node (o378v390 P) .nil .nil) .nil))))) (.node (o14v3 P) (.node (o22v13 P) (.node (o38v29 P) (.node (o70v66 P) (.node (o134v136 P) (.node (o262v270 P) .nil .nil) (.node (o390v402 P) .nil .nil)) (.node (o198v204 P) (.node (o326v336 P) .nil .nil) (.node (o454v468 P) .nil .nil))) (.node (o102v102 P) (.node (o166v170 P) (.node (o294v302 P) .nil .nil) (.node (o422v436 P) .nil .nil)) (.node (o230v236 P) (.node (o358v370 P) .nil .nil) .nil))) (.node (o54v48 P) (.node (o86v84 P) (.node (o150v152 P) (.node (o278v286 P) .nil .nil) (.node (o406v418 P) .nil .nil)) (.node (o214v220 P) (.node (o342v352 P) .nil .nil) (.node (o470v484 P) .nil .nil))) (.node (o118v118 P) (.node (o182v186 P) (.node (o310v320 P) .nil .nil) (.node (o438v452 P) .nil .nil)) (.node (o246v254 P) (.node (o374v386 P) .nil .nil) .nil)))) (.node (o30v21 P) (.node (o46v40 P) (.node (o78v74 P) (.node (o142v144 P) (.node (o270v278 P) .nil .nil) (.node (o398v410 P) .nil .nil)) (.node (o206v212 P) (.node (o334v344 P) .nil .nil) (.node (o462v476 P) .nil .nil))) (.node (o110v110 P) (.node (o174v178 P) (.node (o302v312 P) .nil .nil) (.node (o430v444 P) .nil .nil)) (.node (o238v246 P) (.node (o366v378 P) .nil .nil) .nil))) (.node (o62v56 P) (.node (o94v92 P) (.node (o158v160 P) (.node (o286v294 P) .nil .nil) (.node (o414v426 P) .nil .nil)) (.node (o222v228 P) (.node (o350v360 P) .nil .nil) .nil)) (.node (o126v128 P) (.node (o190v194 P) (.node (o318v328 P) .nil .nil) (.node (o446v460 P) .nil .nil)) (.node (o254v262 P) (.node (o382v394 P) .nil .nil) .nil))))))))
noncomputable def H1 (P : Params) : Heap := ⟨Array.mk [(boot_o_0 P), (boot_o_1 P), (o2v34 P), (o3v431 P), (boot_o_4 P), (boot_o_5 P), (boot_o_6 P), (boot_o_7 P), (boot_o_8 P), (boot_o_9 P), (boot_o_10 P), (o11v0 P), (o12v432 P), (o13v2 P), (o14v3 P), (o15v6 P), (o16v7 P), (o17v8 P), (o18v9 P), (o19v10 P), (o20v11 P), (o21v12 P), (o22v13 P), (o23v14 P), (o24v15 P), (o25v16 P), (o26v17 P), (o27v18 P), (o28v19 P), (o29v20 P), (o30v21 P), (o31v22 P), (o32v23 P), (o33v24 P), (o34v25 P), (o35v26 P), (o36v27 P), (o37v28 P), (o38v29 P), (o39v30 P), (o40v31 P), (o41v32 P), (o42v33 P), (o43v37 P), (o44v38 P), (o45v39 P), (o46v40 P), (o47v41 P), (o48v42 P), (o49v43 P), (o50v44 P), (o51v45 P), (o52v46 P), (o53v47 P), (o54v48 P), (o55v49 P), (o56v50 P), (o57v51 P), (o58v52 P), (o59v53 P), (o60v54 P), (o61v55 P), (o62v56 P), (o63v57 P), (o64v58 P), (o65v59 P), (o66v62 P), (o67v63 P), (o68v64 P), (o69v65 P), (o70v66 P), (o71v67 P), (o72v68 P), (o73v69 P), (o74v70 P), (o75v71 P), (o76v72 P), (o77v73 P), (o78v74 P), (o79v75 P), (o80v78 P), (o81v79 P), (o82v80 P), (o83v81 P), (o84v82 P), (o85v83 P), (o86v84 P), (o87v85 P), (o88v86 P), (o89v87 P), (o90v88 P), (o91v89 P), (o92v90 P), (o93v91 P), (o94v92 P), (o95v93 P), (o96v94 P), (o97v95 P), (o98v96 P), (o99v97 P), (o100v98 P), (o101v101 P), (o102v102 P), (o103v103 P), (o104v104 P), (o105v105 P), (o106v106 P), (o107v107 P), (o108v108 P), (o109v109 P), (o110v110 P), (o111v111 P), (o112v112 P), (o113v113 P), (o114v114 P), (o115v115 P), (o116v116 P), (o117v117 P), (o118v118 P), (o119v119 P), (o120v120 P), (o121v121 P), (o122v124 P), (o123v125 P), (o124v126 P), (o125v127 P), (o126v128 P), (o127v129 P), (o128v130 P), (o129v131 P), (o130v132 P), (o131v133 P), (o132v134 P), (o133v135 P), (o134v136 P), (o135v137 P), (o136v138 P), (o137v139 P), (o138v140 P), (o139v141 P), (o140v142 P), (o141v143 P), (o142v144 P), (o143v145 P), (o144v146 P), (o145v147 P), (o146v148 P), (o147v149 P), (o148v150 P), (o149v151 P), (o150v152 P), (o151v153 P), (o152v154 P), (o153v155 P), (o154v156 P), (o155v157 P), (o156v158 P), (o157v159 P), (o158v160 P), (o159v161 P), (o160v162 P), (o161v163 P), (o162v164 P), (o163v165 P), (o164v168 P), (o165v169 P), (o166v170 P), (o167v171 P), (o168v172 P), (o169v173 P), (o170v174 P), (o171v175 P), (o172v176 P), (o173v177 P), (o174v178 P), (o175v179 P), (o176v180 P), (o177v181 P), (o178v182 P), (o179v183 P), (o180v184 P), (o181v185 P), (o182v186 P), (o183v187 P), (o184v188 P), (o185v189 P), (o186v190 P), (o187v191 P), (o188v192 P), (o189v193 P), (o190v194 P), (o191v195 P), (o192v198 P), (o193v199 P), (o194v200 P), (o195v201 P), (o196v202 P), (o197v203 P), (o198v204 P), (o199v205 P), (o200v206 P), (o201v207 P), (o202v208 P), (o203v209 P), (o204v210 P), (o205v211 P), (o206v212 P), (o207v213 P), (o208v214 P), (o209v215 P), (o210v216 P), (o211v217 P), (o212v218 P), (o213v219 P), (o214v220 P), (o215v221 P), (o216v222 P), (o217v223 P), (o218v224 P), (o219v225 P), (o220v226 P), (o221v227 P), (o222v228 P), (o223v229 P), (o224v230 P), (o225v231 P), (o226v232 P), (o227v233 P), (o228v234 P), (o229v235 P), (o230v236 P), (o231v237 P), (o232v238 P), (o233v239 P), (o234v242 P), (o235v243 P), (o236v244 P), (o237v245 P), (o238v246 P), (o239v247 P), (o240v248 P), (o241v249 P), (o242v250 P), (o243v251 P), (o244v252 P), (o245v253 P), (o246v254 P), (o247v255 P), (o248v256 P), (o249v257 P), (o250v258 P), (o251v259 P), (o252v260 P), (o253v261 P), (o254v262 P), (o255v263 P), (o256v264 P), (o257v265 P), (o258v266 P), (o259v267 P), (o260v268 P), (o261v269 P), (o262v270 P), (o263v271 P), (o264v272 P), (o265v273 P), (o266v274 P), (o267v275 P), (o268v276 P), (o269v277 P), (o270v278 P), (o271v279 P), (o272v280 P), (o273v281 P), (o274v282 P), (o275v283 P), (o276v284 P), (o277v285 P), (o278v286 P), (o279v287 P), (o280v288 P), (o281v289 P), (o282v290 P), (o283v291 P), (o284v292 P), (o285v293 P), (o286v294 P), (o287v295 P), (o288v296 P), (o289v297 P), (o290v298 P), (o291v299 P), (o292v300 P), (o293v301 P), (o294v302 P), (o295v303 P), (o296v304 P), (o297v307 P), (o298v308 P), (o299v309 P), (o300v310 P), (o301v311 P), (o302v312 P), (o303v313 P), (o304v314 P), (o305v315 P), (o306v316 P), (o307v317 P), (o308v318 P), (o309v319 P), (o310v320 P), (o311v321 P), (o312v322 P), (o313v323 P), (o314v324 P), (o315v325 P), (o316v326 P), (o317v327 P), (o318v328 P), (o319v329 P), (o320v330 P), (o321v331 P), (o322v332 P), (o323v333 P), (o324v334 P), (o325v335 P), (o326v336 P), (o327v337 P), (o328v338 P), (o329v339 P), (o330v340 P), (o331v341 P), (o332v342 P), (o333v343 P), (o334v344 P), (o335v345 P), (o336v346 P), (o337v347 P), (o338v348 P), (o339v349 P), (o340v350 P), (o341v351 P), (o342v352 P), (o343v353 P), (o344v354 P), (o345v355 P), (o346v356 P), (o347v357 P), (o348v358 P), (o349v359 P), (o350v360 P), (o351v361 P), (o352v362 P), (o353v363 P), (o354v364 P), (o355v367 P), (o356v368 P), (o357v369 P), (o358v370 P), (o359v371 P), (o360v372 P), (o361v373 P), (o362v374 P), (o363v375 P), (o364v376 P), (o365v377 P), (o366v378 P), (o367v379 P), (o368v380 P), (o369v381 P), (o370v382 P), (o371v383 P), (o372v384 P), (o373v385 P), (o374v386 P), (o375v387 P), (o376v388 P), (o377v389 P), (o378v390 P), (o379v391 P), (o380v392 P), (o381v393 P), (o382v394 P), (o383v395 P), (o384v396 P), (o385v397 P), (o386v398 P), (o387v399 P), (o388v400 P), (o389v401 P), (o390v402 P), (o391v403 P), (o392v404 P), (o393v405 P), (o394v406 P), (o395v407 P), (o396v408 P), (o397v409 P), (o398v410 P), (o399v411 P), (o400v412 P), (o401v413 P), (o402v414 P), (o403v415 P), (o404v416 P), (o405v417 P), (o406v418 P), (o407v419 P), (o408v420 P), (o409v421 P), (o410v422 P), (o411v423 P), (o412v424 P), (o413v425 P), (o414v426 P), (o415v427 P), (o416v428 P), (o417v429 P), (o418v430 P), (o419v433 P), (o420v434 P), (o421v435 P), (o422v436 P), (o423v437 P), (o424v438 P), (o425v439 P), (o426v440 P), (o427v441 P), (o428v442 P), (o429v443 P), (o430v444 P), (o431v445 P), (o432v446 P), (o433v447 P), (o434v448 P), (o435v449 P), (o436v450 P), (o437v451 P), (o438v452 P), (o439v453 P), (o440v454 P), (o441v455 P), (o442v456 P), (o443v457 P), (o444v458 P), (o445v459 P), (o446v460 P), (o447v461 P), (o448v462 P), (o449v463 P), (o450v464 P), (o451v465 P), (o452v466 P), (o453v467 P), (o454v468 P), (o455v469 P), (o456v470 P), (o457v471 P), (o458v472 P), (o459v473 P), (o460v474 P), (o461v475 P), (o462v476 P), (o463v477 P), (o464v478 P), (o465v479 P), (o466v480 P), (o467v481 P), (o468v482 P), (o469v483 P), (o470v484 P), (o471v485 P), (o472v486 P), (o473v487 P), (o474v488 P), (o475v489 P), (o476v490 P), (o477v491 P)], {}⟩
noncomputable def KF (P : Params) : Frag := (nat_lit 2, (o2v34 P)) :: (nat_lit 3, (o3v431 P)) :: (nat_lit 15, (o15v6 P)) :: (nat_lit 17, (o17v8 P)) :: (nat_lit 18, (o18v9 P)) :: (nat_lit 20, (o20v11 P)) :: (nat_lit 21, (o21v12 P)) :: (nat_lit 22, (o22v13 P)) :: (nat_lit 24, (o24v15 P)) :: (nat_lit 25, (o25v16 P)) :: (nat_lit 27, (o27v18 P)) :: (nat_lit 28, (o28v19 P)) :: (nat_lit 29, (o29v20 P)) :: (nat_lit 31, (o31v22 P)) :: (nat_lit 32, (o32v23 P)) :: (nat_lit 34, (o34v25 P)) :: (nat_lit 35, (o35v26 P)) :: (nat_lit 36, (o36v27 P)) :: (nat_lit 38, (o38v29 P)) :: (nat_lit 39, (o39v30 P)) :: (nat_lit 41, (o41v32 P)) :: (nat_lit 42, (o42v33 P)) :: (nat_lit 43, (o43v37 P)) :: (nat_lit 46, (o46v40 P)) :: (nat_lit 51, (o51v45 P)) :: (nat_lit 52, (o52v46 P)) :: (nat_lit 53, (o53v47 P)) :: (nat_lit 55, (o55v49 P)) :: (nat_lit 56, (o56v50 P)) :: (nat_lit 58, (o58v52 P)) :: (nat_lit 59, (o59v53 P)) :: (nat_lit 60, (o60v54 P)) :: (nat_lit 61, (o61v55 P)) :: (nat_lit 62, (o62v56 P)) :: (nat_lit 63, (o63v57 P)) :: (nat_lit 73, (o73v69 P)) :: (nat_lit 74, (o74v70 P)) :: (nat_lit 75, (o75v71 P)) :: (nat_lit 76, (o76v72 P)) :: (nat_lit 77, (o77v73 P)) :: (nat_lit 87, (o87v85 P)) :: (nat_lit 89, (o89v87 P)) :: (nat_lit 90, (o90v88 P)) :: (nat_lit 92, (o92v90 P)) :: (nat_lit 93, (o93v91 P)) :: (nat_lit 94, (o94v92 P)) :: (nat_lit 95, (o95v93 P)) :: (nat_lit 96, (o96v94 P)) :: (nat_lit 97, (o97v95 P)) :: (nat_lit 98, (o98v96 P)) :: (nat_lit 108, (o108v108 P)) :: (nat_lit 110, (o110v110 P)) :: (nat_lit 111, (o111v111 P)) :: (nat_lit 113, (o113v113 P)) :: (nat_lit 114, (o114v114 P)) :: (nat_lit 115, (o115v115 P)) :: (nat_lit 116, (o116v116 P)) :: (nat_lit 117, (o117v117 P)) :: (nat_lit 118, (o118v118 P)) :: (nat_lit 119, (o119v119 P)) :: (nat_lit 129, (o129v131 P)) :: (nat_lit 131, (o131v133 P)) :: (nat_lit 132, (o132v134 P)) :: (nat_lit 134, (o134v136 P)) :: (nat_lit 135, (o135v137 P)) :: (nat_lit 136, (o136v138 P)) :: (nat_lit 137, (o137v139 P)) :: (nat_lit 138, (o138v140 P)) :: (nat_lit 139, (o139v141 P)) :: (nat_lit 140, (o140v142 P)) :: (nat_lit 143, (o143v145 P)) :: (nat_lit 145, (o145v147 P)) :: (nat_lit 146, (o146v148 P)) :: (nat_lit 148, (o148v150 P)) :: (nat_lit 149, (o149v151 P)) :: (nat_lit 150, (o150v152 P)) :: (nat_lit 152, (o152v154 P)) :: (nat_lit 153, (o153v155 P)) :: (nat_lit 155, (o155v157 P)) :: (nat_lit 156, (o156v158 P)) :: (nat_lit 157, (o157v159 P)) :: (nat_lit 159, (o159v161 P)) :: (nat_lit 160, (o160v162 P)) :: (nat_lit 162, (o162v164 P)) :: (nat_lit 163, (o163v165 P)) :: (nat_lit 164, (o164v168 P)) :: (nat_lit 166, (o166v170 P)) :: (nat_lit 167, (o167v171 P)) :: (nat_lit 169, (o169v173 P)) :: (nat_lit 170, (o170v174 P)) :: (nat_lit 171, (o171v175 P)) :: (nat_lit 173, (o173v177 P)) :: (nat_lit 174, (o174v178 P)) :: (nat_lit 176, (o176v180 P)) :: (nat_lit 177, (o177v181 P)) :: (nat_lit 178, (o178v182 P)) :: (nat_lit 180, (o180v184 P)) :: (nat_lit 181, (o181v185 P)) :: (nat_lit 183, (o183v187 P)) :: (nat_lit 184, (o184v188 P)) :: (nat_lit 185, (o185v189 P)) :: (nat_lit 187, (o187v191 P)) :: (nat_lit 188, (o188v192 P)) :: (nat_lit 190, (o190v194 P)) :: (nat_lit 191, (o191v195 P)) :: (nat_lit 199, (o199v205 P)) :: (nat_lit 201, (o201v207 P)) :: (nat_lit 202, (o202v208 P)) :: (nat_lit 204, (o204v210 P)) :: (nat_lit 205, (o205v211 P)) :: (nat_lit 206, (o206v212 P)) :: (nat_lit 208, (o208v214 P)) :: (nat_lit 209, (o209v215 P)) :: (nat_lit 211, (o211v217 P)) :: (nat_lit 212, (o212v218 P)) :: (nat_lit 213, (o213v219 P)) :: (nat_lit 215, (o215v221 P)) :: (nat_lit 216, (o216v222 P)) :: (nat_lit 218, (o218v224 P)) :: (nat_lit 219, (o219v225 P)) :: (nat_lit 220, (o220v226 P)) :: (nat_lit 222, (o222v228 P)) :: (nat_lit 223, (o223v229 P)) :: (nat_lit 225, (o225v231 P)) :: (nat_lit 226, (o226v232 P)) :: (nat_lit 227, (o227v233 P)) :: (nat_lit 228, (o228v234 P)) :: (nat_lit 229, (o229v235 P)) :: (nat_lit 230, (o230v236 P)) :: (nat_lit 231, (o231v237 P)) :: (nat_lit 234, (o234v242 P)) :: (nat_lit 236, (o236v244 P)) :: (nat_lit 237, (o237v245 P)) :: (nat_lit 239, (o239v247 P)) :: (nat_lit 240, (o240v248 P)) :: (nat_lit 241, (o241v249 P)) :: (nat_lit 243, (o243v251 P)) :: (nat_lit 244, (o244v252 P)) :: (nat_lit 246, (o246v254 P)) :: (nat_lit 247, (o247v255 P)) :: (nat_lit 248, (o248v256 P)) :: (nat_lit 250, (o250v258 P)) :: (nat_lit 251, (o251v259 P)) :: (nat_lit 253, (o253v261 P)) :: (nat_lit 254, (o254v262 P)) :: (nat_lit 255, (o255v263 P)) :: (nat_lit 257, (o257v265 P)) :: (nat_lit 258, (o258v266 P)) :: (nat_lit 260, (o260v268 P)) :: (nat_lit 261, (o261v269 P)) :: (nat_lit 262, (o262v270 P)) :: (nat_lit 264, (o264v272 P)) :: (nat_lit 265, (o265v273 P)) :: (nat_lit 267, (o267v275 P)) :: (nat_lit 268, (o268v276 P)) :: (nat_lit 269, (o269v277 P)) :: (nat_lit 271, (o271v279 P)) :: (nat_lit 272, (o272v280 P)) :: (nat_lit 274, (o274v282 P)) :: (nat_lit 275, (o275v283 P)) :: (nat_lit 276, (o276v284 P)) :: (nat_lit 278, (o278v286 P)) :: (nat_lit 279, (o279v287 P)) :: (nat_lit 281, (o281v289 P)) :: (nat_lit 282, (o282v290 P)) :: (nat_lit 283, (o283v291 P)) :: (nat_lit 285, (o285v293 P)) :: (nat_lit 286, (o286v294 P)) :: (nat_lit 288, (o288v296 P)) :: (nat_lit 289, (o289v297 P)) :: (nat_lit 290, (o290v298 P)) :: (nat_lit 292, (o292v300 P)) :: (nat_lit 293, (o293v301 P)) :: (nat_lit 295, (o295v303 P)) :: (nat_lit 296, (o296v304 P)) :: (nat_lit 297, (o297v307 P)) :: (nat_lit 299, (o299v309 P)) :: (nat_lit 300, (o300v310 P)) :: (nat_lit 302, (o302v312 P)) :: (nat_lit 303, (o303v313 P)) :: (nat_lit 304, (o304v314 P)) :: (nat_lit 306, (o306v316 P)) :: (nat_lit 307, (o307v317 P)) :: (nat_lit 309, (o309v319 P)) :: (nat_lit 310, (o310v320 P)) :: (nat_lit 311, (o311v321 P)) :: (nat_lit 313, (o313v323 P)) :: (nat_lit 314, (o314v324 P)) :: (nat_lit 316, (o316v326 P)) :: (nat_lit 317, (o317v327 P)) :: (nat_lit 318, (o318v328 P)) :: (nat_lit 320, (o320v330 P)) :: (nat_lit 321, (o321v331 P)) :: (nat_lit 323, (o323v333 P)) :: (nat_lit 324, (o324v334 P)) :: (nat_lit 325, (o325v335 P)) :: (nat_lit 327, (o327v337 P)) :: (nat_lit 328, (o328v338 P)) :: (nat_lit 330, (o330v340 P)) :: (nat_lit 331, (o331v341 P)) :: (nat_lit 332, (o332v342 P)) :: (nat_lit 334, (o334v344 P)) :: (nat_lit 335, (o335v345 P)) :: (nat_lit 337, (o337v347 P)) :: (nat_lit 338, (o338v348 P)) :: (nat_lit 339, (o339v349 P)) :: (nat_lit 341, (o341v351 P)) :: (nat_lit 342, (o342v352 P)) :: (nat_lit 344, (o344v354 P)) :: (nat_lit 345, (o345v355 P)) :: (nat_lit 346, (o346v356 P)) :: (nat_lit 348, (o348v358 P)) :: (nat_lit 349, (o349v359 P)) :: (nat_lit 351, (o351v361 P)) :: (nat_lit 352, (o352v362 P)) :: (nat_lit 353, (o353v363 P)) :: (nat_lit 354, (o354v364 P)) :: (nat_lit 355, (o355v367 P)) :: (nat_lit 356, (o356v368 P)) :: (nat_lit 358, (o358v370 P)) :: (nat_lit 359, (o359v371 P)) :: (nat_lit 361, (o361v373 P)) :: (nat_lit 362, (o362v374 P)) :: (nat_lit 363, (o363v375 P)) :: (nat_lit 365, (o365v377 P)) :: (nat_lit 366, (o366v378 P)) :: (nat_lit 368, (o368v380 P)) :: (nat_lit 369, (o369v381 P)) :: (nat_lit 370, (o370v382 P)) :: (nat_lit 372, (o372v384 P)) :: (nat_lit 373, (o373v385 P)) :: (nat_lit 375, (o375v387 P)) :: (nat_lit 376, (o376v388 P)) :: (nat_lit 377, (o377v389 P)) :: (nat_lit 379, (o379v391 P)) :: (nat_lit 380, (o380v392 P)) :: (nat_lit 382, (o382v394 P)) :: (nat_lit 383, (o383v395 P)) :: (nat_lit 384, (o384v396 P)) :: (nat_lit 386, (o386v398 P)) :: (nat_lit 387, (o387v399 P)) :: (nat_lit 389, (o389v401 P)) :: (nat_lit 390, (o390v402 P)) :: (nat_lit 391, (o391v403 P)) :: (nat_lit 393, (o393v405 P)) :: (nat_lit 394, (o394v406 P)) :: (nat_lit 396, (o396v408 P)) :: (nat_lit 397, (o397v409 P)) :: (nat_lit 398, (o398v410 P)) :: (nat_lit 400, (o400v412 P)) :: (nat_lit 401, (o401v413 P)) :: (nat_lit 403, (o403v415 P)) :: (nat_lit 404, (o404v416 P)) :: (nat_lit 405, (o405v417 P)) :: (nat_lit 407, (o407v419 P)) :: (nat_lit 408, (o408v420 P)) :: (nat_lit 410, (o410v422 P)) :: (nat_lit 411, (o411v423 P)) :: (nat_lit 412, (o412v424 P)) :: (nat_lit 414, (o414v426 P)) :: (nat_lit 415, (o415v427 P)) :: (nat_lit 417, (o417v429 P)) :: (nat_lit 418, (o418v430 P)) :: (nat_lit 419, (o419v433 P)) :: (nat_lit 421, (o421v435 P)) :: (nat_lit 422, (o422v436 P)) :: (nat_lit 424, (o424v438 P)) :: (nat_lit 425, (o425v439 P)) :: (nat_lit 426, (o426v440 P)) :: (nat_lit 428, (o428v442 P)) :: (nat_lit 429, (o429v443 P)) :: (nat_lit 431, (o431v445 P)) :: (nat_lit 432, (o432v446 P)) :: (nat_lit 433, (o433v447 P)) :: (nat_lit 435, (o435v449 P)) :: (nat_lit 436, (o436v450 P)) :: (nat_lit 438, (o438v452 P)) :: (nat_lit 439, (o439v453 P)) :: (nat_lit 440, (o440v454 P)) :: (nat_lit 442, (o442v456 P)) :: (nat_lit 443, (o443v457 P)) :: (nat_lit 445, (o445v459 P)) :: (nat_lit 446, (o446v460 P)) :: (nat_lit 447, (o447v461 P)) :: (nat_lit 449, (o449v463 P)) :: (nat_lit 450, (o450v464 P)) :: (nat_lit 452, (o452v466 P)) :: (nat_lit 453, (o453v467 P)) :: (nat_lit 454, (o454v468 P)) :: (nat_lit 456, (o456v470 P)) :: (nat_lit 457, (o457v471 P)) :: (nat_lit 459, (o459v473 P)) :: (nat_lit 460, (o460v474 P)) :: (nat_lit 461, (o461v475 P)) :: (nat_lit 463, (o463v477 P)) :: (nat_lit 464, (o464v478 P)) :: (nat_lit 466, (o466v480 P)) :: (nat_lit 467, (o467v481 P)) :: (nat_lit 468, (o468v482 P)) :: (nat_lit 471, (o471v485 P)) :: (nat_lit 472, (o472v486 P)) :: (nat_lit 473, (o473v487 P)) :: (nat_lit 476, (o476v490 P)) :: (nat_lit 477, (o477v491 P)) :: []
noncomputable def KA : List Addr := [nat_lit 2, nat_lit 3, nat_lit 15, nat_lit 17, nat_lit 18, nat_lit 20, nat_lit 21, nat_lit 22, nat_lit 24, nat_lit 25, nat_lit 27, nat_lit 28, nat_lit 29, nat_lit 31, nat_lit 32, nat_lit 34, nat_lit 35, nat_lit 36, nat_lit 38, nat_lit 39, nat_lit 41, nat_lit 42, nat_lit 43, nat_lit 46, nat_lit 51, nat_lit 52, nat_lit 53, nat_lit 55, nat_lit 56, nat_lit 58, nat_lit 59, nat_lit 60, nat_lit 61, nat_lit 62, nat_lit 63, nat_lit 73, nat_lit 74, nat_lit 75, nat_lit 76, nat_lit 77, nat_lit 87, nat_lit 89, nat_lit 90, nat_lit 92, nat_lit 93, nat_lit 94, nat_lit 95, nat_lit 96, nat_lit 97, nat_lit 98, nat_lit 108, nat_lit 110, nat_lit 111, nat_lit 113, nat_lit 114, nat_lit 115, nat_lit 116, nat_lit 117, nat_lit 118, nat_lit 119, nat_lit 129, nat_lit 131, nat_lit 132, nat_lit 134, nat_lit 135, nat_lit 136, nat_lit 137, nat_lit 138, nat_lit 139, nat_lit 140, nat_lit 143, nat_lit 145, nat_lit 146, nat_lit 148, nat_lit 149, nat_lit 150, nat_lit 152, nat_lit 153, nat_lit 155, nat_lit 156, nat_lit 157, nat_lit 159, nat_lit 160, nat_lit 162, nat_lit 163, nat_lit 164, nat_lit 166, nat_lit 167, nat_lit 169, nat_lit 170, nat_lit 171, nat_lit 173, nat_lit 174, nat_lit 176, nat_lit 177, nat_lit 178, nat_lit 180, nat_lit 181, nat_lit 183, nat_lit 184, nat_lit 185, nat_lit 187, nat_lit 188, nat_lit 190, nat_lit 191, nat_lit 199, nat_lit 201, nat_lit 202, nat_lit 204, nat_lit 205, nat_lit 206, nat_lit 208, nat_lit 209, nat_lit 211, nat_lit 212, nat_lit 213, nat_lit 215, nat_lit 216, nat_lit 218, nat_lit 219, nat_lit 220, nat_lit 222, nat_lit 223, nat_lit 225, nat_lit 226, nat_lit 227, nat_lit 228, nat_lit 229, nat_lit 230, nat_lit 231, nat_lit 234, nat_lit 236, nat_lit 237, nat_lit 239, nat_lit 240, nat_lit 241, nat_lit 243, nat_lit 244, nat_lit 246, nat_lit 247, nat_lit 248, nat_lit 250, nat_lit 251, nat_lit 253, nat_lit 254, nat_lit 255, nat_lit 257, nat_lit 258, nat_lit 260, nat_lit 261, nat_lit 262, nat_lit 264, nat_lit 265, nat_lit 267, nat_lit 268, nat_lit 269, nat_lit 271, nat_lit 272, nat_lit 274, nat_lit 275, nat_lit 276, nat_lit 278, nat_lit 279, nat_lit 281, nat_lit 282, nat_lit 283, nat_lit 285, nat_lit 286, nat_lit 288, nat_lit 289, nat_lit 290, nat_lit 292, nat_lit 293, nat_lit 295, nat_lit 296, nat_lit 297, nat_lit 299, nat_lit 300, nat_lit 302, nat_lit 303, nat_lit 304, nat_lit 306, nat_lit 307, nat_lit 309, nat_lit 310, nat_lit 311, nat_lit 313, nat_lit 314, nat_lit 316, nat_lit 317, nat_lit 318, nat_lit 320, nat_lit 321, nat_lit 323, nat_lit 324, nat_lit 325, nat_lit 327, nat_lit 328, nat_lit 330, nat_lit 331, nat_lit 332, nat_lit 334, nat_lit 335, nat_lit 337, nat_lit 338, nat_lit 339, nat_lit 341, nat_lit 342, nat_lit 344, nat_lit 345, nat_lit 346, nat_lit 348, nat_lit 349, nat_lit 351, nat_lit 352, nat_lit 353, nat_lit 354, nat_lit 355, nat_lit 356, nat_lit 358, nat_lit 359, nat_lit 361, nat_lit 362, nat_lit 363, nat_lit 365, nat_lit 366, nat_lit 368, nat_lit 369, nat_lit 370, nat_lit 372, nat_lit 373, nat_lit 375, nat_lit 376, nat_lit 377, nat_lit 379, nat_lit 380, nat_lit 382, nat_lit 383, nat_lit 384, nat_lit 386, nat_lit 387, nat_lit 389, nat_lit 390, nat_lit 391, nat_lit 393, nat_lit 394, nat_lit 396, nat_lit 397, nat_lit 398, nat_lit 400, nat_lit 401, nat_lit 403, nat_lit 404, nat_lit 405, nat_lit 407, nat_lit 408, nat_lit 410, nat_lit 411, nat_lit 412, nat_lit 414, nat_lit 415, nat_lit 417, nat_lit 418, nat_lit 419, nat_lit 421, nat_lit 422, nat_lit 424, nat_lit 425, nat_lit 426, nat_lit 428, nat_lit 429, nat_lit 431, nat_lit 432, nat_lit 433, nat_lit 435, nat_lit 436, nat_lit 438, nat_lit 439, nat_lit 440, nat_lit 442, nat_lit 443, nat_lit 445, nat_lit 446, nat_lit 447, nat_lit 449, nat_lit 450, nat_lit 452, nat_lit 453, nat_lit 454, nat_lit 456, nat_lit 457, nat_lit 459, nat_lit 460, nat_lit 461, nat_lit 463, nat_lit 464, nat_lit 466, nat_lit 467, nat_lit 468, nat_lit 471, nat_lit 472, nat_lit 473, nat_lit 476, nat_lit 477]

noncomputable abbrev ENV : Env := { scope := PySem.Challenge.pw_sj0197_01.main.scope, locals := mainNs, globals := mainNs, cells := [], code := .ref 13, frame := some 14 }
noncomputable abbrev BODY : List Stmt := behindTheImports PySem.Challenge.pw_sj0197_01
noncomputable abbrev CODE : Code := .body BODY ENV
abbrev ANN : Option Value := some (.ref 6)
abbrev QPOS : Pos := ⟨0, 0, 0, 0⟩
noncomputable abbrev DR : Drawn := boot_drawn
noncomputable def part (i k : Nat) : List Stmt := (BODY.drop i).take k
theorem e_pre (w : World) : (fun os => topGo treeTable PW w 11 ANN 12 ⟨boot_heap w.params, Array.mk [], boot_drawn, boot_toks, os⟩ (topStub PW)) =
    fun os => some (⟨HA w.params, Array.mk [], DR, 187, os⟩, ⟨denote treeTable CODE, CODE, ⟨0, 0, 0, 0⟩, [topFrame QPOS]⟩) := by kernel_rfl
theorem e_block (w : World) : (fun os => segRun treeTable PW w 11 ANN 1 1 ⟨HA w.params, Array.mk [], DR, 187, os⟩ (blockOf BODY ENV CODE ⟨0, 0, 0, 0⟩ [topFrame QPOS])) =
    fun os => some (Flow.next, SharedT.abs ⟨T0 w.params, 15, {}, Array.mk [], DR, 187, os⟩, CODE, ⟨0, 0, 0, 0⟩) := by kernel_rfl
theorem e_1 (w : World) : (fun os => segRunT treeTable PW w 11 ANN 1 151 ⟨T0 w.params, 15, {}, Array.mk [], DR, 187, os⟩ (piecesOf (part 0 6) ENV CODE ⟨0, 0, 0, 0⟩ [topFrame QPOS])) =
    fun os => some (Flow.next, ⟨T1 w.params, 43, {}, Array.mk [], DR, 235, os⟩, CODE, ⟨17, 0, 17, 8⟩) := by kernel_rfl
theorem e_2 (w : World) : (fun os => segRunT treeTable PW w 11 ANN 1 249 ⟨T1 w.params, 43, {}, Array.mk [], DR, 235, os⟩ (piecesOf (part 6 1) ENV CODE ⟨17, 0, 17, 8⟩ [topFrame QPOS])) =
    fun os => some (Flow.next, ⟨T2 w.params, 66, {}, Array.mk [], DR, 269, os⟩, CODE, ⟨18, 0, 23, 24⟩) := by kernel_rfl
theorem e_3 (w : World) : (fun os => segRunT treeTable PW w 11 ANN 1 191 ⟨T2 w.params, 66, {}, Array.mk [], DR, 269, os⟩ (piecesOf (part 7 1) ENV CODE ⟨18, 0, 23, 24⟩ [topFrame QPOS])) =
    fun os => some (Flow.next, ⟨T3 w.params, 80, {}, Array.mk [], DR, 289, os⟩, CODE, ⟨24, 0, 25, 8⟩) := by kernel_rfl
theorem e_4 (w : World) : (fun os => segRunT treeTable PW w 11 ANN 1 223 ⟨T3 w.params, 80, {}, Array.mk [], DR, 289, os⟩ (piecesOf (part 8 1) ENV CODE ⟨24, 0, 25, 8⟩ [topFrame QPOS])) =
    fun os => some (Flow.next, ⟨T4 w.params, 101, {}, Array.mk [], DR, 318, os⟩, CODE, ⟨26, 0, 29, 24⟩) := by kernel_rfl
theorem e_5 (w : World) : (fun os => segRunT treeTable PW w 11 ANN 1 223 ⟨T4 w.params, 101, {}, Array.mk [], DR, 318, os⟩ (piecesOf (part 9 1) ENV CODE ⟨26, 0, 29, 24⟩ [topFrame QPOS])) =
    fun os => some (Flow.next, ⟨T5 w.params, 122, {}, Array.mk [], DR, 347, os⟩, CODE, ⟨30, 0, 33, 24⟩) := by kernel_rfl
theorem e_6 (w : World) : (fun os => segRunT treeTable PW w 11 ANN 1 319 ⟨T5 w.params, 122, {}, Array.mk [], DR, 347, os⟩ (piecesOf (part 10 4) ENV CODE ⟨30, 0, 33, 24⟩ [topFrame QPOS])) =
    fun os => some (Flow.next, ⟨T6 w.params, 164, {}, Array.mk [], DR, 406, os⟩, CODE, ⟨44, 0, 56, 50⟩) := by kernel_rfl
theorem e_7 (w : World) : (fun os => segRunT treeTable PW w 11 ANN 1 130 ⟨T6 w.params, 164, {}, Array.mk [], DR, 406, os⟩ (piecesOf (part 14 5) ENV CODE ⟨44, 0, 56, 50⟩ [topFrame QPOS])) =
    fun os => some (Flow.next, ⟨T7 w.params, 192, {}, Array.mk [], DR, 440, os⟩, CODE, ⟨76, 0, 76, 8⟩) := by kernel_rfl
theorem e_8 (w : World) : (fun os => segRunT treeTable PW w 11 ANN 1 326 ⟨T7 w.params, 192, {}, Array.mk [], DR, 440, os⟩ (piecesOf (part 19 1) ENV CODE ⟨76, 0, 76, 8⟩ [topFrame QPOS])) =
    fun os => some (Flow.next, ⟨T8 w.params, 234, {}, Array.mk [], DR, 500, os⟩, CODE, ⟨77, 0, 102, 42⟩) := by kernel_rfl
theorem e_9 (w : World) : (fun os => segRunT treeTable PW w 11 ANN 1 306 ⟨T8 w.params, 234, {}, Array.mk [], DR, 500, os⟩ (piecesOf (part 20 12) ENV CODE ⟨77, 0, 102, 42⟩ [topFrame QPOS])) =
    fun os => some (Flow.next, ⟨T9 w.params, 297, {}, Array.mk [], DR, 586, os⟩, CODE, ⟨124, 0, 125, 77⟩) := by kernel_rfl
theorem e_10 (w : World) : (fun os => segRunT treeTable PW w 11 ANN 1 302 ⟨T9 w.params, 297, {}, Array.mk [], DR, 586, os⟩ (piecesOf (part 32 12) ENV CODE ⟨124, 0, 125, 77⟩ [topFrame QPOS])) =
    fun os => some (Flow.next, ⟨T10 w.params, 355, {}, Array.mk [], DR, 679, os⟩, CODE, ⟨182, 0, 182, 14⟩) := by kernel_rfl
theorem e_11 (w : World) : (fun os => segRunT treeTable PW w 11 ANN 1 317 ⟨T10 w.params, 355, {}, Array.mk [], DR, 679, os⟩ (piecesOf (part 44 11) ENV CODE ⟨182, 0, 182, 14⟩ [topFrame QPOS])) =
    fun os => some (Flow.next, ⟨T11 w.params, 419, {}, Array.mk [], DR, 780, os⟩, CODE, ⟨253, 0, 263, 71⟩) := by kernel_rfl
theorem e_12 (w : World) : (fun os => segRunT treeTable PW w 11 ANN 1 303 ⟨T11 w.params, 419, {}, Array.mk [], DR, 780, os⟩ (piecesOf (part 55 10) ENV CODE ⟨253, 0, 263, 71⟩ [topFrame QPOS])) =
    fun os => some (Flow.next, ⟨T12 w.params, 478, {}, Array.mk [], DR, 881, os⟩, CODE, ⟨323, 0, 354, 67⟩) := by kernel_rfl
theorem e_fin (w : World) : (fun os => topRun treeTable PW w 11 ANN 2 (SharedT.abs ⟨T12 w.params, 478, {}, Array.mk [], DR, 881, os⟩) ⟨doneF .next, CODE, ⟨323, 0, 354, 67⟩, [topFrame QPOS]⟩) =
    fun os => some ⟨H1 w.params, Array.mk [], DR, 881, os⟩ := by kernel_rfl
theorem body_split : BODY = part 0 6 ++ (part 6 1 ++ (part 7 1 ++ (part 8 1 ++ (part 9 1 ++ (part 10 4 ++ (part 14 5 ++ (part 19 1 ++ (part 20 12 ++ (part 32 12 ++ (part 44 11 ++ (part 55 10 ++ ([])))))))))))) := by kernel_rfl
theorem top_run (w : World) (os : OsState) : topRun treeTable PW w 11 ANN (12 + (1 + (151 + (249 + (191 + (223 + (223 + (319 + (130 + (326 + (306 + (302 + (317 + (303 + (2))))))))))))))) ⟨boot_heap w.params, Array.mk [], boot_drawn, boot_toks, os⟩ (topStub PW) = some ⟨H1 w.params, Array.mk [], DR, 881, os⟩ := by
  have k := congrFun (e_fin w) os
  have k := piece_nil (env := ENV) k
  have k := piece_app (segRun_of (congrFun (e_12 w) os)) k
  have k := piece_app (segRun_of (congrFun (e_11 w) os)) k
  have k := piece_app (segRun_of (congrFun (e_10 w) os)) k
  have k := piece_app (segRun_of (congrFun (e_9 w) os)) k
  have k := piece_app (segRun_of (congrFun (e_8 w) os)) k
  have k := piece_app (segRun_of (congrFun (e_7 w) os)) k
  have k := piece_app (segRun_of (congrFun (e_6 w) os)) k
  have k := piece_app (segRun_of (congrFun (e_5 w) os)) k
  have k := piece_app (segRun_of (congrFun (e_4 w) os)) k
  have k := piece_app (segRun_of (congrFun (e_3 w) os)) k
  have k := piece_app (segRun_of (congrFun (e_2 w) os)) k
  have k := piece_app (segRun_of (congrFun (e_1 w) os)) k
  rw [← body_split] at k
  exact go_top (congrFun (e_pre w) os) (piece_block (congrFun (e_block w) os) k)
end

section
open PySem PySem.W PySem.Calls PyProof.Rows
set_option maxHeartbeats 8000000
abbrev RW : RowW := PySem.Challenge.rw_sj0197_01.row.toRowW
noncomputable def view : Program := { PW with main := { PW.main with body := [stAt 64] } }
abbrev LOOSE : List Str := [Str.ofString "give_names", Str.ofString "three_pieces", Str.ofString "spliced", Str.ofString "replace_once", Str.ofString "SnobolError", Str.ofString "Failure", Str.ofString "Pattern", Str.ofString "Delayed", Str.ofString "NameRef", Str.ofString "is_fail", Str.ofString "fits", Str.ofString "whole_of_text", Str.ofString "text_of_whole", Str.ofString "to_whole", Str.ofString "to_text", Str.ofString "need_text", Str.ofString "PlainHost", Str.ofString "OPENING", Str.ofString "CLOSING", Str.ofString "chars_end", Str.ofString "len_end", Str.ofString "pos_end", Str.ofString "rpos_end", Str.ofString "tab_end", Str.ofString "rtab_end", Str.ofString "rem_end", Str.ofString "any_at", Str.ofString "notany_at", Str.ofString "run_end", Str.ofString "span_end", Str.ofString "break_end", Str.ofString "bal_end", Str.ofString "bal_ends", Str.ofString "one_end", Str.ofString "plain_end", Str.ofString "replaced", Str.ofString "COUNTED", Str.ofString "SIGNED", Str.ofString "WIDTH_OF_COUNT", Str.ofString "plain_count", Str.ofString "plain_signs", Str.ofString "pattern_of", Str.ofString "is_delayed", Str.ofString "settled", Str.ofString "LOST", Str.ofString "match_at", Str.ofString "tried", Str.ofString "advanced", Str.ofString "led_in", Str.ofString "led_out", Str.ofString "steered", Str.ofString "taken", Str.ofString "_law_take", Str.ofString "_law_leaf", Str.ofString "_law_put", Str.ofString "_law_cut", Str.ofString "_law_apart_right"]
theorem ka_ok : ∀ P, KA = (KF P).map (·.1) := fun P => by kernel_rfl
noncomputable abbrev HK : Hook := kmHook KF KA ka_ok [474]
noncomputable abbrev XT : Shared → Bool := fun s => xlAt view [] s && recOk (RowW.records RW) s
theorem e_size (w : World) : ((boot_heap w.params).isNs mainGlobals && (Array.mk [] : Array GenState).size == 0, (boot_heap w.params).objs.size, (boot_heap w.params).nsMap mainGlobals "__annotations__") = (true, 11, ANN) := by kernel_rfl
theorem e_l1 (w : World) : (fun (os : OsState) => (staticsOk (importedModules PW.main.body) (boot_heap w.params) (H1 w.params) && namesBound PW (H1 w.params) && gensDone ⟨H1 w.params, Array.mk [], DR, 881, os⟩ && laidKept (boot_heap w.params) (H1 w.params))) = fun _ => true := by kernel_rfl
theorem e_l2 (w : World) : (fun os => openSeen view LOOSE (importedModules PW.main.body) XT true ⟨H1 w.params, Array.mk [], DR, 881, os⟩) = fun _ => openGood view LOOSE := by kernel_rfl
theorem e_l3 (w : World) : (fun os => Hook.obs HK ⟨H1 w.params, Array.mk [], DR, 881, os⟩) = fun _ => Hook.val HK w := by kernel_rfl
theorem e_open1 : opening PW = plainProg PW.main.scope.names := by kernel_rfl
theorem e_open2 : ∀ s, fenceModules? PW s = some s := fun s => by kernel_rfl
theorem left : LeftO PW view LOOSE XT (Hook.obs HK) (Hook.val HK) 6182 :=
  LeftO.of_pieces (boot_open e_open1 (by decide +kernel) e_open2) e_size top_run (by decide +kernel) fun w => by
    funext os
    exact Prod.ext (congrFun (e_l1 w) os) (Prod.ext (congrFun (e_l2 w) os) (congrFun (e_l3 w) os))
end

section
open PySem PySem.W PySem.Calls PyProof.Rows PySem.Spec

abbrev Led := List (Addr × Obj)
abbrev ARD (d u : Nat) (gd : Option (List Code)) (frs : List Env) : Around := { handled := none, depth := d, frames := some frs, guards := gd, units := u }

theorem up {M : Model} {A : Around} {α : Type} {t : Sem α} {Q : α → Shared → Prop} {E : Value → Shared → Prop} {s : Shared} {d u : Nat} {frs : List Env} (hh : A.handled = none) (hf : A.frames = some frs) (hd : A.depth ≤ d) (hu : A.units ≤ u)
    (h : wpAny M (ARD d u A.guards frs) t Q E s) : wpAny M A t Q E s := fun Γ p hΓ =>
  h Γ p ⟨hΓ.1.trans hh, Nat.le_trans hΓ.2.1 hd, fun l hl => hΓ.2.2.1 l (hf.trans hl), hΓ.2.2.2.1, Nat.le_trans hΓ.2.2.2.2 hu⟩

abbrev TUP : Value := .type "tuple"
/-- each tuple of l stands so -/
def Kept (h : Heap) (l : Led) : Prop := ∀ q ∈ l, q.2.cls = TUP → h.get? q.1 = some q.2
/-- a contract of a def: its ledger is all that it may turn; no tuple of it is turned -/
def Spec (w : World) (lo : List Str) (mean : ExcName → Option Value) (mg mb : Str → Option Value) (d u : Nat) (f : Addr) (args : List Value) (pre : Led) (Post : Value → Led → Prop) : Prop :=
  ∀ (gd : Option (List Code)) (frs : List Env) (base g : Heap) (s : Shared) (Q E : Value → Shared → Prop),
    Below (ARD d u gd frs) base frs g → (KF w.params).In g → Top topProg lo mean mg mb g → g.StaysIn s.heap → g.objs.size ≤ s.heap.objs.size →
    (∀ p ∈ pre, s.heap.get? p.1 = some p.2 ∧ g.get? p.1 = none) →
    (∀ r h' tk' {post : Led}, g.StaysIn h' → (∀ p ∈ post, h'.get? p.1 = some p.2 ∧ g.get? p.1 = none) → Post r post → Kept h' pre → Q r { s with heap := h', toks := tk' }) →
    wpAny (model PW w) (ARD d u gd frs) (call (.ref f) args) Q E s

inductive Take1 (a : Addr) (o : Obj) : Led → Led → Prop
  | head {r} : Take1 a o ((a, o) :: r) r
  | tail {p r r'} : Take1 a o r r' → Take1 a o (p :: r) (p :: r')
inductive TakeL : Led → Led → Led → Prop
  | nil {l} : TakeL [] l l
  | cons {a o pre l l' rest} : Take1 a o l l' → TakeL pre l' rest → TakeL ((a, o) :: pre) l rest
theorem Take1.mem {a : Addr} {o : Obj} : ∀ {l l' : Led}, Take1 a o l l' → (a, o) ∈ l
  | _, _, .head => .head _
  | _, _, .tail h => .tail _ h.mem
theorem Take1.sub {a : Addr} {o : Obj} : ∀ {l l' : Led}, Take1 a o l l' → ∀ p ∈ l', p ∈ l
  | _, _, .head, _, hp => .tail _ hp
  | _, _, .tail h, _, hp => by
    cases hp with
    | head => exact .head _
    | tail _ hp => exact .tail _ (h.sub _ hp)
theorem TakeL.mem : ∀ {pre l rest : Led}, TakeL pre l rest → ∀ p ∈ pre, p ∈ l
  | _, _, _, .nil, _, hp => nomatch hp
  | _, _, _, .cons h t, _, hp => by
    cases hp with
    | head => exact h.mem
    | tail _ hp => exact h.sub _ (t.mem _ hp)
theorem TakeL.sub : ∀ {pre l rest : Led}, TakeL pre l rest → ∀ p ∈ rest, p ∈ l
  | _, _, _, .nil, _, hp => hp
  | _, _, _, .cons h t, _, hp => h.sub _ (t.sub _ hp)

/-- each of l stands elsewhere than each of pre that is no tuple -/
def Off (rest pre : Led) : Prop := ∀ p ∈ rest, ∀ q ∈ pre, q.2.cls = TUP ∨ p.2 ≠ q.2 ∨ p.1 ≠ q.1

theorem use_spec {w : World} {lo : List Str} {mean : ExcName → Option Value} {mg mb : Str → Option Value} {d u : Nat} {f : Addr} {args : List Value} {pre rest news : Led} {Post : Value → Led → Prop}
    {A A₀ : Around} {base h₀ : Heap} {outer : List Env} {env : Env} {L : Addr} {m : Str → Option Value} {s : Shared} {Q E : Value → Shared → Prop}
    (B : Below A₀ base outer h₀) (F : Fr h₀ L s.heap m) (X : (KF w.params).In h₀) (T : Top topProg lo mean mg mb h₀) (N : News h₀ L s.heap news)
    (hA : A.frames = some (env :: outer)) (hf : env.frame = some L) (hk : env.scope.kind = .function) (hh : A.handled = none) (hd : A.depth ≤ d) (hu : A.units ≤ u)
    (S : Spec w lo mean mg mb d u f args pre Post) (tk : TakeL pre news rest) (off : Off rest pre)
    (ret : ∀ r h' tk' post, Fr h₀ L h' m → News h₀ L h' (post ++ rest) → Post r post → (∀ p ∈ rest, ∀ q ∈ post, q.2.cls ≠ TUP → p.1 ≠ q.1) → Q r { s with heap := h', toks := tk' }) :
    wpAny (model PW w) A (call (.ref f) args) Q E s := by
  have Np : News h₀ L s.heap pre := fun p hp => N p (tk.mem p hp)
  obtain ⟨FG, BG, st, _⟩ := groundX (R := fun _ _ => True) B F Np hA hf hk
  refine up hh hA hd hu (S _ _ _ _ _ _ _ ⟨rfl, BG.stays, BG.frames⟩ (X.keeps st) (T.keeps st) (fun b o e => of_hideAll _ e) (Nat.le_of_eq (hideAll_size _ _))
    (fun p hp => ⟨(Np p hp).1, hideAll_none _ (List.mem_map_of_mem hp)⟩) fun r h' tk' {post} hst hpost hP hkept => ?_)
  obtain ⟨oL, es, ep, hL, hLd, hLk, hLf⟩ := FG.ns
  have hrest : ∀ p ∈ rest, (∃ q ∈ pre, q.2.cls = TUP ∧ q.1 = p.1 ∧ q.2 = p.2) ∨ (hideAll s.heap (pre.map (·.1))).get? p.1 = some p.2 := fun p hp => by
    by_cases hm : p.1 ∈ pre.map (·.1)
    · obtain ⟨q, hq, e⟩ := List.mem_map.mp hm
      have a := (Np q hq).1
      rw [e, (N p (tk.sub p hp)).1] at a
      have a := Option.some.inj a
      rcases off p hp q hq with h | h | h
      · exact .inl ⟨q, hq, h, e, a.symm⟩
      · exact absurd a h
      · exact absurd e.symm h
    · exact .inr (hideAll_get _ (N p (tk.sub p hp)).1 hm)
  have hrest' : ∀ p ∈ rest, h'.get? p.1 = some p.2 := fun p hp => by
    rcases hrest p hp with ⟨q, hq, h1, h2, h3⟩ | h
    · rw [← h2, ← h3]; exact hkept q hq h1
    · exact hst _ _ h
  refine ret r h' tk' post ⟨⟨oL, es, ep, hst L oL hL, hLd, hLk, hLf⟩, fun b o e => hst b o (FG.keep b o e), FG.above⟩ (fun p hp => ?_) hP fun p hp q hq hc e => ?_
  · rcases List.mem_append.mp hp with hp | hp
    · refine ⟨(hpost p hp).1, fun q => ?_, ?_⟩
      · have := (hpost p hp).2
        rw [q, hL] at this; cases this
      · cases q : h₀.get? p.1 with
        | none => rfl
        | some o => have := (hpost p hp).2; rw [st _ _ q] at this; cases this
    · exact ⟨hrest' p hp, (N p (tk.sub p hp)).2⟩
  · rcases hrest p hp with ⟨q', hq', h1, h2, h3⟩ | h
    · have a := hkept q' hq' h1
      rw [h2, e, (hpost q hq).1] at a
      exact hc (Option.some.inj a ▸ h1)
    · have := (hpost q hq).2
      rw [← e, h] at this; cases this

/-- the def is entered -/
theorem enterS {w : World} {lo : List Str} {mean : ExcName → Option Value} {mg mb : Str → Option Value} {d u : Nat} {gd : Option (List Code)} {frs : List Env} {base g : Heap} {s : Shared} {pre : Led} {Q E : Value → Shared → Prop}
    {name qual : Str} {params : Arguments} {body body₀ : List Stmt} {scope scope₀ : Scope} {dV kV doc pm cdv ct oc : Value} {an od : Option Addr} {osl : Array (Option Value)} {f : Addr} {args : List Value} (binds : List (Str × Value))
    (B : Below (ARD d u gd frs) base frs g) (X : (KF w.params).In g) (T : Top topProg lo mean mg mb g) (st : g.StaysIn s.heap) (sz : g.objs.size ≤ s.heap.objs.size)
    (N : ∀ p ∈ pre, s.heap.get? p.1 = some p.2 ∧ g.get? p.1 = none)
    (ho : (KF w.params).lookup f = some ⟨oc, od, .func (fnOf name qual params body₀ scope₀ dV kV doc pm an cdv ct), osl⟩) (hb₀ : body₀ = body) (hs₀ : scope₀ = scope) (hcd : codeIn (KF w.params) cdv qual = true) (hroom : d < recursionLimit)
    (hbind : BindsTo s (fnOf name qual params body₀ scope₀ dV kV doc pm an cdv ct) ⟨args, []⟩ binds) (hloc : ∀ y ∈ binds, scope.names.lookup y.1 = some .local)
    (h : ∀ L' h₁, Fr g L' h₁ (fun y => binds.reverse.lookup y) → News g L' h₁ pre →
      wpAny (model PW w) ((ARD d u gd frs).deeper (envOf qual scope L' f cdv)) (execs body (envOf qual scope L' f cdv))
        (fun fl s' => Q (match fl with | .ret v => v | _ => .none) s')
        (fun e s' => wpAny (model PW w) ((ARD d u gd frs).deeper (envOf qual scope L' f cdv)) (leaving (envOf qual scope L' f cdv) e) (fun _ s'' => E e s'') (fun e' s'' => E e' s'') s')
        { s with heap := h₁, toks := s.toks + binds.length })
    (hco : scope.isCoroutine = false) (hgen : scope.isGenerator = false) (hk : scope.kind = .function) (hcell : ∀ x ∈ scope.names, x.2 ≠ .cell) :
    wpAny (model PW w) (ARD d u gd frs) (call (.ref f) args) Q E s := by
  cases hb₀
  cases hs₀
  refine wpAny_call ?_
  refine codeAny_call_def (binds := binds) hroom ((X.keeps st) _ _ ho) rfl (T.nolimit.keeps st) (codeRec_of (X.keeps st) hcd) rfl hbind hcell hloc (fun h₁ hns hk₁ => ?_) hco hgen hk
  exact h _ h₁ ⟨hns, fun b o e => hk₁ b o (st b o e), sz⟩ fun p hp => ⟨hk₁ _ _ (N p hp).1, Nat.ne_of_lt (Heap.lt_size (N p hp).1), (N p hp).2⟩
end

section
set_option maxHeartbeats 4000000
open PySem PySem.W PySem.Calls PyProof PyProof.Rows PySem.Spec
abbrev tup (vs : List Value) : Obj := { cls := .type "tuple", data := .seq vs.toArray }
def Stop (P : Prop) : Prop := P
theorem stopHere {P : Prop} (h : Stop P) : P := h
theorem newsOut {g h : Heap} {L : Addr} {post : Led} (N : News g L h post) : ∀ p ∈ post, h.get? p.1 = some p.2 ∧ g.get? p.1 = none := fun p hp => ⟨(N p hp).1, (N p hp).2.2⟩
theorem newsSub {g h : Heap} {L : Addr} {news post : Led} (N : News g L h news) (hs : ∀ p ∈ post, p ∈ news) : ∀ p ∈ post, h.get? p.1 = some p.2 ∧ g.get? p.1 = none := fun p hp => ⟨(N p (hs p hp)).1, (N p (hs p hp)).2.2⟩
theorem allNil {α : Type} {P : α → Prop} : ∀ v ∈ ([] : List α), P v := fun _ h => nomatch h
theorem allCons {α : Type} {P : α → Prop} {x : α} {r : List α} (h : P x) (t : ∀ v ∈ r, P v) : ∀ v ∈ x :: r, P v := fun _ hp => by
  cases hp with
  | head => exact h
  | tail _ hp => exact t _ hp
theorem subNil {l : Led} : ∀ p ∈ ([] : Led), p ∈ l := fun _ h => nomatch h
theorem subCons {x : Addr × Obj} {r l : Led} (h : x ∈ l) (t : ∀ p ∈ r, p ∈ l) : ∀ p ∈ x :: r, p ∈ l := fun _ hp => by
  cases hp with
  | head => exact h
  | tail _ hp => exact t _ hp
theorem subStep {x : Addr × Obj} {r l : Led} (t : ∀ p ∈ r, p ∈ l) : ∀ p ∈ x :: r, p ∈ x :: l := fun _ hp => by
  cases hp with
  | head => exact .head _
  | tail _ hp => exact .tail _ (t _ hp)
def Skip (_ : Addr × Obj) (_ : Led) : Prop := True
theorem skipOf {x : Addr × Obj} {r : Led} (_ : x ∈ r) : Skip x r := trivial
theorem subUpS {x : Addr × Obj} {r l : Led} (_ : Skip x r) (h : ∀ p ∈ r, p ∈ l) : ∀ p ∈ r, p ∈ x :: l := fun p hp => .tail _ (h p hp)
theorem subRefl {l : Led} : ∀ p ∈ l, p ∈ l := fun _ h => h
theorem subUp {x : Addr × Obj} {r l : Led} (h : ∀ p ∈ r, p ∈ l) : ∀ p ∈ r, p ∈ x :: l := fun p hp => .tail _ (h p hp)
theorem subApp {a b c : Led} (h : ∀ p ∈ b, p ∈ c) : ∀ p ∈ a ++ b, p ∈ a ++ c := fun p hp => by
  rcases List.mem_append.mp hp with q | q
  · exact List.mem_append_left _ q
  · exact List.mem_append_right _ (h p q)
theorem dict_cls {prog : Program} {w : World} {K : Type} [DecidableEq K] {knd : KeyKind prog w K} {o : Obj} {kvs : List (K × Value)} (h : o.IsDictOf knd kvs) : o.cls = .type "dict" := by
  obtain ⟨_, _, h, _⟩ := h
  exact h.1
theorem newsSub2 {g h : Heap} {L : Addr} {news post : Led} (N : News g L h news) (hs : ∀ p ∈ post, p ∈ news) : News g L h post := fun p hp => N p (hs p hp)
theorem off_nil {pre : Led} : Off [] pre := fun _ hp => nomatch hp
theorem off_cons {a : Addr} {o : Obj} {r pre : Led} (h : ∀ q ∈ pre, q.2.cls = TUP ∨ o ≠ q.2 ∨ a ≠ q.1) (t : Off r pre) : Off ((a, o) :: r) pre := fun p hp => by
  cases hp with
  | head => exact h
  | tail _ hp => exact t p hp
theorem off_consT {a : Addr} {o : Obj} {r pre : Led} (h : o.cls = TUP) (t : Off r pre) : Off ((a, o) :: r) pre := off_cons (fun q _ => (Classical.em (q.2.cls = TUP)).imp id fun e => .inl fun e' => e (e' ▸ h)) t
theorem off_tups {op pre : Led} (h : ∀ p ∈ op, p.2.cls = TUP) : Off op pre := fun p hp q _ => (Classical.em (q.2.cls = TUP)).imp id fun e => .inl fun e' => e (e' ▸ h p hp)
theorem tups_ne {g h : Heap} {L a : Addr} {o : Obj} {news op : Led} {c : Value} (ht : ∀ p ∈ op, p.2.cls = TUP) (N : News g L h news) (hm : (a, o) ∈ news) (hs : ∀ p ∈ op, p ∈ news) (hc : o.cls = c) (hn : c ≠ TUP) : ∀ p ∈ op, p.1 ≠ a := fun p hp e => by
  have h1 := (N p (hs p hp)).1
  have h2 := (N _ hm).1
  rw [e, h2] at h1
  have := ht p hp
  rw [← Option.some.inj h1, hc] at this
  exact hn this
section
variable {a b : Addr} {oa o : Obj} {c d : Value} {r : Led}
theorem ne1_nil : ∀ q ∈ ([] : Led), q.2.cls = TUP ∨ oa ≠ q.2 ∨ a ≠ q.1 := fun _ hp => nomatch hp
theorem ne1_tup (h : o.cls = TUP) (t : ∀ q ∈ r, q.2.cls = TUP ∨ oa ≠ q.2 ∨ a ≠ q.1) : ∀ q ∈ ((b, o) :: r : Led), q.2.cls = TUP ∨ oa ≠ q.2 ∨ a ≠ q.1 := fun p hp => by
  cases hp with
  | head => exact .inl h
  | tail _ hp => exact t p hp
theorem ne1_cls (h1 : oa.cls = c) (h2 : o.cls = d) (hn : c ≠ d) (t : ∀ q ∈ r, q.2.cls = TUP ∨ oa ≠ q.2 ∨ a ≠ q.1) : ∀ q ∈ ((b, o) :: r : Led), q.2.cls = TUP ∨ oa ≠ q.2 ∨ a ≠ q.1 := fun p hp => by
  cases hp with
  | head => exact .inr (.inl fun e => hn (h1.symm.trans ((congrArg Obj.cls e).trans h2)))
  | tail _ hp => exact t p hp
theorem ne1_cell {v : Option Value} (h1 : oa.data = .cell v) (h2 : (match o.data with | .cell _ => true | _ => false) = false) (t : ∀ q ∈ r, q.2.cls = TUP ∨ oa ≠ q.2 ∨ a ≠ q.1) : ∀ q ∈ ((b, o) :: r : Led), q.2.cls = TUP ∨ oa ≠ q.2 ∨ a ≠ q.1 := fun p hp => by
  cases hp with
  | head => exact .inr (.inl fun e => by have e' : oa = o := e; rw [← e', h1] at h2; cases h2)
  | tail _ hp => exact t p hp
theorem ne1_cons (h : a ≠ b) (t : ∀ q ∈ r, q.2.cls = TUP ∨ oa ≠ q.2 ∨ a ≠ q.1) : ∀ q ∈ ((b, o) :: r : Led), q.2.cls = TUP ∨ oa ≠ q.2 ∨ a ≠ q.1 := fun p hp => by
  cases hp with
  | head => exact .inr (.inr h)
  | tail _ hp => exact t p hp
end
theorem kept_nil {h : Heap} : Kept h [] := fun _ hp => nomatch hp
theorem kept_tup {h h₀ : Heap} {L : Addr} {news : Led} {a : Addr} {o : Obj} {r : Led} (N : News h₀ L h news) (hm : (a, o) ∈ news) (t : Kept h r) : Kept h ((a, o) :: r) := fun p hp => by
  cases hp with
  | head => exact fun _ => (N _ hm).1
  | tail _ hp => exact t p hp
theorem kept_not {h : Heap} {a : Addr} {o : Obj} {c : Value} {r : Led} (hc : o.cls = c) (hn : c ≠ TUP) (t : Kept h r) : Kept h ((a, o) :: r) := fun p hp => by
  cases hp with
  | head => exact fun e => absurd (hc.symm.trans e) hn
  | tail _ hp => exact t p hp
theorem ne_cls {h₀ h : Heap} {L : Addr} {news : Led} {a b : Addr} {o1 o2 : Obj} {c1 c2 : Value} (N : News h₀ L h news) (h1 : (a, o1) ∈ news) (h2 : (b, o2) ∈ news) (e1 : o1.cls = c1) (e2 : o2.cls = c2) (ne : c1 ≠ c2) : a ≠ b := by
  rintro rfl
  have := (N _ h1).1
  rw [(N _ h2).1] at this
  cases this
  exact ne (e1.symm.trans e2)
theorem ne_cell {h₀ h : Heap} {L : Addr} {news : Led} {a b : Addr} {o1 o2 : Obj} {v : Option Value} (N : News h₀ L h news) (h1 : (a, o1) ∈ news) (h2 : (b, o2) ∈ news) (e1 : o1.data = .cell v) (e2 : (match o2.data with | .cell _ => true | _ => false) = false) : a ≠ b := by
  rintro rfl
  have := (N _ h1).1
  rw [(N _ h2).1] at this
  cases this
  rw [e1] at e2
  cases e2
theorem eq_tup_str {prog : Program} {w : World} {A : Around} {E : Value → Shared → Prop} {s : Shared} {h₀ : Heap} {L : Addr} {news : Led} {l : Addr} {vs : List Value} {b : Str} {u : Tok} {Q : Value → Shared → Prop} (N : News h₀ L s.heap news) (hm : (l, tup vs) ∈ news) (hu : A.units < cLine) (h : Q (.bool false) s) :
    wpAny (model prog w) A (compareOp .Eq (.ref l) (.str b u)) Q E s :=
  PySem.SeqAt.RcAt.tuple_str (items := vs.toArray) b u ⟨_, (N _ hm).1, rfl, _, rfl⟩ hu prog w E Q h
end

section
set_option maxHeartbeats 4000000
open PySem PySem.W PySem.Calls PyProof PyProof.Rows PySem.Spec
local macro_rules | `(tactic| walk_at $s:str) => `(tactic| k_extra $s)
local macro_rules | `(tactic| k_ne) => `(tactic| ((try dsimp only); k_extra "m ne"))
local macro_rules | `(tactic| k_all) => `(tactic| first | (with_reducible assumption) | k_extra "m kall")

section
theorem regMBa : (fun (_ : OpenLaw) (_ : Params → Frag) => True) PySem.Challenge.rw_sj0197_01 KF := by
  k_fill
  k_with "m enter" => (
    (case k1 => exact B); (case k2 => exact X); (case k3 => exact T); (case k4 => exact st); (case k5 => exact sz); (case k6 => exact N)
    (case k7 => k_dflt k_is)
    (case hb => (conv => lhs; whnf))
    (case hs => (conv => lhs; whnf))
    (case k8 => k_dflt k_is)
    (case k9 => decide)
    (case k10 => exact BindsTo.of_eq rfl)
    (case k11 => exact locs rfl)
    (case c1 => exact rfl); (case c2 => exact rfl); (case c3 => exact rfl); (case c4 => decide)
    clear st sz N
    intro L h F N'
    (try dsimp only)
    (try k_fold))
  k_with "m end" => ((try k_unfold); (try dsimp only); refine' hret _ _ _ ?e1 ?e2 ?e3 ?e4; (case e1 => exact Fr.keep (by k_asm)); (case e4 => k_extra "m kept"))
  k_with "m kept" => (first | exact kept_nil | (refine' kept_tup ?ka ?kb ?kc; (case ka => k_asm); (case kb => k_mem); (case kc => k_extra "m kept")) | (refine' kept_not ?kd ?ke ?kf; (case kd => k_extra "m cls"); (case ke => decide); (case kf => k_extra "m kept")))
  k_with "m sub" => (first | exact subNil | exact subRefl | (refine' subStep ?su; (case su => k_extra "m sub")) | (refine' subUpS ?sk ?su; (case sk => ((fail_if_success (refine skipOf ?_; k_mem)); exact trivial)); (case su => k_extra "m sub")) | (refine' subCons ?sa ?sb; (case sa => k_mem); (case sb => k_extra "m sub")))
  k_with "m same" => (
    intro z h2 h3
    simp only [List.forall_mem_cons, List.not_mem_nil, false_implies, implies_true, and_true, ne_eq] at h2
    simp [kstB, h2])
  k_with "m same2" => (
    intro z h2 h3
    dsimp only [isPs, psOf] at h2
    simp only [List.forall_mem_cons, List.not_mem_nil, false_implies, implies_true, and_true, ne_eq] at h2
    simp only [List.contains_cons, List.contains_nil, Bool.or_false, Bool.or_eq_false_iff, beq_eq_false_iff_ne, ne_eq] at h3
    simp [kstB, h2, h3])
  k_with "m same3" => (
    intro z h2 h3
    simp only [List.forall_mem_cons, List.not_mem_nil, false_implies, implies_true, and_true, ne_eq] at h2
    simp only [List.contains_cons, List.contains_nil, Bool.or_false, beq_eq_false_iff_ne, ne_eq] at h3
    simp [kstB, h2, h3])
  k_with "m same4" => (
    intro z h2 h3
    simp only [List.forall_mem_cons, List.not_mem_nil, false_implies, implies_true, and_true, ne_eq] at h2
    simp only [List.contains_cons, List.contains_nil, Bool.or_false, Bool.or_eq_false_iff, beq_eq_false_iff_ne, ne_eq] at h3
    simp [kstB, h2, h3])
  k_with "m led" => (dsimp only [isLed, osLed, fxL, vD, hD, List.cons_append, List.nil_append]; k_extra "m sub")
  k_with "m ps" => (dsimp only [isPs, psOf]; kst_all)
  k_with "m all" => exact newsOut (by k_asm)
  k_with "m outA" => exact newsSub (by k_asm) (subApp (by k_extra "m sub"))
  k_with "m out" => exact newsSub (by k_asm) (by k_extra "m sub")
  k_with "m t1" => (first | with_reducible exact Take1.head | (refine' Take1.tail ?mt; (case mt => k_extra "m t1")))
  k_with "m take" => (first | exact TakeL.nil | (refine' TakeL.cons ?ma ?mb; (case ma => k_extra "m t1"); (case mb => k_extra "m take")))
  k_with "m cls" => (first | assumption | exact dict_cls (by assumption) | (conv => lhs; whnf))
  k_with "m nocell" => exact rfl
  k_with "m ne" => (first | assumption | (refine Ne.symm ?_; assumption) | (refine' ne_cls ?na ?nb ?nc ?nd ?nf ?ng; (case na => k_asm); (case nb => k_mem); (case nc => k_mem); (case nd => k_extra "m cls"); (case nf => k_extra "m cls"); (case ng => decide)) | (refine' ne_cell ?na ?nb ?nc ?nd ?nf; (case na => k_asm); (case nb => k_mem); (case nc => k_mem); (case nd => assumption); (case nf => k_extra "m nocell")) | (refine Ne.symm ?_; refine' ne_cell ?na ?nb ?nc ?nd ?nf; (case na => k_asm); (case nb => k_mem); (case nc => k_mem); (case nd => assumption); (case nf => k_extra "m nocell")) | (refine neN ?_; (try dsimp only); omega))
  k_with "m ne1" => (first | exact ne1_nil | (refine' ne1_tup ?nt ?nu; (case nt => first | exact rfl | assumption); (case nu => k_extra "m ne1")) | (refine' ne1_cls ?n1 ?n2 ?n3 ?n4; (case n1 => k_extra "m cls"); (case n2 => k_extra "m cls"); (case n3 => decide); (case n4 => k_extra "m ne1")) | (refine' ne1_cell ?n1 ?n2 ?n4; (case n1 => assumption); (case n2 => k_extra "m nocell"); (case n4 => k_extra "m ne1")) | (refine' ne1_cons ?nv ?nw; (case nv => k_extra "m ne"); (case nw => k_extra "m ne1")))
  k_with "m off" => (first | exact off_nil | k_extra "m offop" | (refine' off_consT ?oc ?ob; (case oc => first | exact rfl | assumption); (case ob => k_extra "m off")) | (refine' off_cons ?oa ?ob; (case oa => k_extra "m ne1"); (case ob => k_extra "m off")))
  k_with "m use" => (
    (case hA => exact rfl); (case hf => exact rfl); (case hk => exact rfl); (case hh => exact rfl)
    (case B => k_asm); (case F => k_asm); (case X => k_asm); (case T => k_asm); (case N => k_asm)
    (case hd => exact Nat.le_of_ble_eq_true rfl); (case hu => exact Nat.le_of_ble_eq_true rfl)
    (case tk => k_extra "m take")
    (case off => k_extra "m off"))
  k_with "call ref" => (k_here; k_dflt (k_extra "m call"))
  k_with "compareOp NotIn str ref" => (k_here; k_dflt (refine' notin_tuple_strs ?k1 ?k2 ?_; (case k1 => exact tupK (by k_in) (by k_is)); (case k2 => kde_strs); k_whole))
  k_with "compareOp In str ref" => (k_here; k_dflt (refine' in_tuple_strs ?k1 ?k2 ?_; (case k1 => exact tupK (by k_in) (by k_is)); (case k2 => kde_strs); k_whole))
  k_with "setItem ref str" => (k_here; k_dflt (refine' setItem_K PyProof.V.same_str (strKind_is _ _ _ _) ?v ?F ?N ?U ?d ?f ?_ ?z; (case F => k_asm); (case N => k_asm); (case U => k_updF); (case d => k_asm); (case f => k_asm); (case z => exact line_of_lenLe (n := 5) (by assumption) (by decide)); (case v => k_flat)); intro h' o' F' N' hd' hf'; (try dsimp only at N'); (try k_sweep))
  k_with "compareOp Eq ref str" => (k_here; k_dflt (refine' eq_tup_str ?k1 ?k2 ?k3 ?_; (case k1 => k_asm); (case k2 => k_mem); (case k3 => exact Nat.le_of_ble_eq_true rfl); k_whole))
  k_with "CompSrc" => (k_here; k_dflt (k_extra "m src"))
  k_with "CompEnd" => (k_here; k_extra "m compend")
  k_with "call builtin:sorted" => (k_here; k_dflt (k_extra "m sorted"))
  k_with "compareOp NotEq str str" => (k_here; k_extra "m neq")
  k_with "compareOp Eq str str" => (k_here; k_extra "m eqs")
  k_with "call builtin:str.join" => (k_here; k_dflt (k_extra "m join"))
  k_with "eval Lambda" => (k_here; k_dflt (k_extra "m lam"))
  k_with "compareOp NotEq int int" => (k_here; k_dflt (k_extra "m neqi"))
  k_with "compareOp NotEq ref ref" => (k_here; k_dflt (k_extra "m neqt"))
  k_with "call builtin:len" => (k_here; k_dflt (k_extra "m len"))
  k_with "binaryOp Add ref ref" => (k_here; k_dflt (k_extra "m addl"))
  k_with "eval ListComp" => (k_here; k_extra "m comp")
  k_with "subscriptTail" => (k_here; k_dflt (k_extra "m item"))
  k_with "execs cons" => (k_here; k_extra "m stmt")
  trivial
/-- what _law_take leaves -/
inductive TakeRes (bx la : Addr) (c W : Int) : Value → Led → Prop
  | mk (v : Int) (t tc' : Tok) (vs' : List Value) (xs' : List Int) (k' j' : Nat) (h0 : 0 ≤ v) (h1 : v < W) (hi : IntsAre vs' xs') (hx : vs'.length ≤ 60) : TakeRes bx la c W (.int v t) [(bx, listOf [Value.ref la, .int (c + 1) tc'].toArray k'), (la, listOf vs'.toArray j')]
theorem take_spec {w : World} {lo : List Str} {mean mg mb} {bx la : Addr} {vs : List Value} {xs : List Int} {c W : Int} {tc tw : Tok} {k j : Nat} (hi : IntsAre vs xs) (hW : 0 < W) (hW2 : W < 1000) (hc : 0 ≤ c) (hc2 : c < 1000) (hx : vs.length ≤ 60)
    (ne : @Ne Nat bx la) :
    Spec w lo mean mg mb 700 2500 446 [.ref bx, .int W tw]
      [(bx, listOf [Value.ref la, .int c tc].toArray k), (la, listOf vs.toArray j)]
      (TakeRes bx la c W) := by
  intro gd frs base g s Q E B X T st sz N hret
  refine' enterS [(Str.ofString "box", .ref bx), (Str.ofString "wide", .int W tw)] ?k1 ?k2 ?k3 ?k4 ?k5 ?k6 ?k7 ?hb ?hs ?k8 ?k9 ?k10 ?k11 ?_ ?c1 ?c2 ?c3 ?c4
  k_extra "m enter"
  k_steps
  · rename_i tk0 g0 l0 g1 F1 N1 l1 hxs
    k_extra "m end"
    (case e3 => exact .mk _ _ (tk0 + 1 + 1) vs xs k j (Int.fmod_nonneg_of_pos _ hW) (Int.fmod_lt_of_pos _ hW) hi hx)
    (case e2 => k_extra "m out")
  · rename_i tk0 g0 l0 g1 F1 N1 l1 hxs
    cases hi with
    | nil => cases hxs
    | @cons n t us ns hi =>
      (try k_unfold); (try dsimp only)
      refine' kl_popAt (k := 0) (p := []) (q := us) (y := .int n t) ?F ?N ?f ?k ?e ?U ?z ?_
      (case F => k_asm)
      (case N => k_asm)
      (case U => k_upd)
      (case f => exact rfl)
      (case k => simp [seqIndex?])
      (case e => rfl)
      (case z => exact Nat.le_trans hx (Nat.le_of_ble_eq_true rfl))
      kl_rest
      (try k_fold)
      k_steps
      k_extra "m end"
      (case e3 => exact .mk _ _ (tk0 + 1 + 1) us ns k (j + 1) (Int.fmod_nonneg_of_pos _ hW) (Int.fmod_lt_of_pos _ hW) hi (Nat.le_trans (Nat.le_succ _) hx))
      (case e2 => k_extra "m out")
end

section
theorem regMBp : (fun (_ : OpenLaw) (_ : Params → Frag) => True) PySem.Challenge.rw_sj0197_01 KF := by
  k_with_none
  k_with "m enter" => (
    (case k1 => exact B); (case k2 => exact X); (case k3 => exact T); (case k4 => exact st); (case k5 => exact sz); (case k6 => exact N)
    (case k7 => k_dflt k_is)
    (case hb => (conv => lhs; whnf))
    (case hs => (conv => lhs; whnf))
    (case k8 => k_dflt k_is)
    (case k9 => decide)
    (case k10 => exact BindsTo.of_eq rfl)
    (case k11 => exact locs rfl)
    (case c1 => exact rfl); (case c2 => exact rfl); (case c3 => exact rfl); (case c4 => decide)
    clear st sz N
    intro L h F N'
    (try dsimp only)
    (try k_fold))
  k_with "m end" => ((try k_unfold); (try dsimp only); refine' hret _ _ _ ?e1 ?e2 ?e3 ?e4; (case e1 => exact Fr.keep (by k_asm)); (case e4 => k_extra "m kept"))
  k_with "m kept" => (first | exact kept_nil | (refine' kept_tup ?ka ?kb ?kc; (case ka => k_asm); (case kb => k_mem); (case kc => k_extra "m kept")) | (refine' kept_not ?kd ?ke ?kf; (case kd => k_extra "m cls"); (case ke => decide); (case kf => k_extra "m kept")))
  k_with "m sub" => (first | exact subNil | exact subRefl | (refine' subStep ?su; (case su => k_extra "m sub")) | (refine' subUpS ?sk ?su; (case sk => ((fail_if_success (refine skipOf ?_; k_mem)); exact trivial)); (case su => k_extra "m sub")) | (refine' subCons ?sa ?sb; (case sa => k_mem); (case sb => k_extra "m sub")))
  k_with "m same" => (
    intro z h2 h3
    simp only [List.forall_mem_cons, List.not_mem_nil, false_implies, implies_true, and_true, ne_eq] at h2
    simp [kstB, h2])
  k_with "m same2" => (
    intro z h2 h3
    dsimp only [isPs, psOf] at h2
    simp only [List.forall_mem_cons, List.not_mem_nil, false_implies, implies_true, and_true, ne_eq] at h2
    simp only [List.contains_cons, List.contains_nil, Bool.or_false, Bool.or_eq_false_iff, beq_eq_false_iff_ne, ne_eq] at h3
    simp [kstB, h2, h3])
  k_with "m same3" => (
    intro z h2 h3
    simp only [List.forall_mem_cons, List.not_mem_nil, false_implies, implies_true, and_true, ne_eq] at h2
    simp only [List.contains_cons, List.contains_nil, Bool.or_false, beq_eq_false_iff_ne, ne_eq] at h3
    simp [kstB, h2, h3])
  k_with "m same4" => (
    intro z h2 h3
    simp only [List.forall_mem_cons, List.not_mem_nil, false_implies, implies_true, and_true, ne_eq] at h2
    simp only [List.contains_cons, List.contains_nil, Bool.or_false, Bool.or_eq_false_iff, beq_eq_false_iff_ne, ne_eq] at h3
    simp [kstB, h2, h3])
  k_with "m led" => (dsimp only [isLed, osLed, fxL, vD, hD, List.cons_append, List.nil_append]; k_extra "m sub")
  k_with "m ps" => (dsimp only [isPs, psOf]; kst_all)
  k_with "m all" => exact newsOut (by k_asm)
  k_with "m outA" => exact newsSub (by k_asm) (subApp (by k_extra "m sub"))
  k_with "m out" => exact newsSub (by k_asm) (by k_extra "m sub")
  k_with "m t1" => (first | with_reducible exact Take1.head | (refine' Take1.tail ?mt; (case mt => k_extra "m t1")))
  k_with "m take" => (first | exact TakeL.nil | (refine' TakeL.cons ?ma ?mb; (case ma => k_extra "m t1"); (case mb => k_extra "m take")))
  k_with "m cls" => (first | assumption | exact dict_cls (by assumption) | (conv => lhs; whnf))
  k_with "m nocell" => exact rfl
  k_with "m ne" => (first | assumption | (refine Ne.symm ?_; assumption) | (refine' ne_cls ?na ?nb ?nc ?nd ?nf ?ng; (case na => k_asm); (case nb => k_mem); (case nc => k_mem); (case nd => k_extra "m cls"); (case nf => k_extra "m cls"); (case ng => decide)) | (refine' ne_cell ?na ?nb ?nc ?nd ?nf; (case na => k_asm); (case nb => k_mem); (case nc => k_mem); (case nd => assumption); (case nf => k_extra "m nocell")) | (refine Ne.symm ?_; refine' ne_cell ?na ?nb ?nc ?nd ?nf; (case na => k_asm); (case nb => k_mem); (case nc => k_mem); (case nd => assumption); (case nf => k_extra "m nocell")) | (refine neN ?_; (try dsimp only); omega))
  k_with "m ne1" => (first | exact ne1_nil | (refine' ne1_tup ?nt ?nu; (case nt => first | exact rfl | assumption); (case nu => k_extra "m ne1")) | (refine' ne1_cls ?n1 ?n2 ?n3 ?n4; (case n1 => k_extra "m cls"); (case n2 => k_extra "m cls"); (case n3 => decide); (case n4 => k_extra "m ne1")) | (refine' ne1_cell ?n1 ?n2 ?n4; (case n1 => assumption); (case n2 => k_extra "m nocell"); (case n4 => k_extra "m ne1")) | (refine' ne1_cons ?nv ?nw; (case nv => k_extra "m ne"); (case nw => k_extra "m ne1")))
  k_with "m off" => (first | exact off_nil | k_extra "m offop" | (refine' off_consT ?oc ?ob; (case oc => first | exact rfl | assumption); (case ob => k_extra "m off")) | (refine' off_cons ?oa ?ob; (case oa => k_extra "m ne1"); (case ob => k_extra "m off")))
  k_with "m use" => (
    (case hA => exact rfl); (case hf => exact rfl); (case hk => exact rfl); (case hh => exact rfl)
    (case B => k_asm); (case F => k_asm); (case X => k_asm); (case T => k_asm); (case N => k_asm)
    (case hd => exact Nat.le_of_ble_eq_true rfl); (case hu => exact Nat.le_of_ble_eq_true rfl)
    (case tk => k_extra "m take")
    (case off => k_extra "m off"))
  k_with "call ref" => (k_here; k_dflt (k_extra "m call"))
  k_with "compareOp NotIn str ref" => (k_here; k_dflt (refine' notin_tuple_strs ?k1 ?k2 ?_; (case k1 => exact tupK (by k_in) (by k_is)); (case k2 => kde_strs); k_whole))
  k_with "compareOp In str ref" => (k_here; k_dflt (refine' in_tuple_strs ?k1 ?k2 ?_; (case k1 => exact tupK (by k_in) (by k_is)); (case k2 => kde_strs); k_whole))
  k_with "setItem ref str" => (k_here; k_dflt (refine' setItem_K PyProof.V.same_str (strKind_is _ _ _ _) ?v ?F ?N ?U ?d ?f ?_ ?z; (case F => k_asm); (case N => k_asm); (case U => k_updF); (case d => k_asm); (case f => k_asm); (case z => exact line_of_lenLe (n := 5) (by assumption) (by decide)); (case v => k_flat)); intro h' o' F' N' hd' hf'; (try dsimp only at N'); (try k_sweep))
  k_with "compareOp Eq ref str" => (k_here; k_dflt (refine' eq_tup_str ?k1 ?k2 ?k3 ?_; (case k1 => k_asm); (case k2 => k_mem); (case k3 => exact Nat.le_of_ble_eq_true rfl); k_whole))
  k_with "CompSrc" => (k_here; k_dflt (k_extra "m src"))
  k_with "CompEnd" => (k_here; k_extra "m compend")
  k_with "call builtin:sorted" => (k_here; k_dflt (k_extra "m sorted"))
  k_with "compareOp NotEq str str" => (k_here; k_extra "m neq")
  k_with "compareOp Eq str str" => (k_here; k_extra "m eqs")
  k_with "call builtin:str.join" => (k_here; k_dflt (k_extra "m join"))
  k_with "eval Lambda" => (k_here; k_dflt (k_extra "m lam"))
  k_with "compareOp NotEq int int" => (k_here; k_dflt (k_extra "m neqi"))
  k_with "compareOp NotEq ref ref" => (k_here; k_dflt (k_extra "m neqt"))
  k_with "call builtin:len" => (k_here; k_dflt (k_extra "m len"))
  k_with "binaryOp Add ref ref" => (k_here; k_dflt (k_extra "m addl"))
  k_with "eval ListComp" => (k_here; k_extra "m comp")
  k_with "subscriptTail" => (k_here; k_dflt (k_extra "m item"))
  k_with "execs cons" => (k_here; k_extra "m stmt")
  trivial
theorem put_spec {w : World} {lo : List Str} {mean mg mb} {form : Int} {word rest : Str} {t1 t2 t3 : Tok} (hf : form = 0 ∨ form = 1 ∨ form = 2 ∨ form = 3) (h1 : word.length < 200) (h2 : rest.length < 200) :
    Spec w lo mean mg mb 700 2500 460 [.int form t1, .str word t2, .str rest t3] []
      (fun r post => ∃ (v : Str) (t : Tok), r = .str v t ∧ post = [] ∧ v = (if form = 0 then Str.ofString "" else if form = 1 then Str.ofString "x" else if form = 2 then rest ++ word else Txt.slice (word ++ Str.ofString "y" ++ word) none (some 6))) := by
  intro gd frs base g s Q E B X T st sz N hret
  refine' enterS [(Str.ofString "form", .int form t1), (Str.ofString "word", .str word t2), (Str.ofString "rest", .str rest t3)] ?k1 ?k2 ?k3 ?k4 ?k5 ?k6 ?k7 ?hb ?hs ?k8 ?k9 ?k10 ?k11 ?_ ?c1 ?c2 ?c3 ?c4
  k_extra "m enter"
  rcases hf with hf | hf | hf | hf
  all_goals (
    subst hf
    k_steps
    k_extra "m end"
    (case e3 => exact ⟨_, _, rfl, rfl, by simp⟩)
    (case e2 => exact List.forall_mem_nil _))
end

section
theorem regMBc : (fun (_ : OpenLaw) (_ : Params → Frag) => True) PySem.Challenge.rw_sj0197_01 KF := by
  k_with_none
  k_with "m enter" => (
    (case k1 => exact B); (case k2 => exact X); (case k3 => exact T); (case k4 => exact st); (case k5 => exact sz); (case k6 => exact N)
    (case k7 => k_dflt k_is)
    (case hb => (conv => lhs; whnf))
    (case hs => (conv => lhs; whnf))
    (case k8 => k_dflt k_is)
    (case k9 => decide)
    (case k10 => exact BindsTo.of_eq rfl)
    (case k11 => exact locs rfl)
    (case c1 => exact rfl); (case c2 => exact rfl); (case c3 => exact rfl); (case c4 => decide)
    clear st sz N
    intro L h F N'
    (try dsimp only)
    (try k_fold))
  k_with "m end" => ((try k_unfold); (try dsimp only); refine' hret _ _ _ ?e1 ?e2 ?e3 ?e4; (case e1 => exact Fr.keep (by k_asm)); (case e4 => k_extra "m kept"))
  k_with "m kept" => (first | exact kept_nil | (refine' kept_tup ?ka ?kb ?kc; (case ka => k_asm); (case kb => k_mem); (case kc => k_extra "m kept")) | (refine' kept_not ?kd ?ke ?kf; (case kd => k_extra "m cls"); (case ke => decide); (case kf => k_extra "m kept")))
  k_with "m sub" => (first | exact subNil | exact subRefl | (refine' subStep ?su; (case su => k_extra "m sub")) | (refine' subUpS ?sk ?su; (case sk => ((fail_if_success (refine skipOf ?_; k_mem)); exact trivial)); (case su => k_extra "m sub")) | (refine' subCons ?sa ?sb; (case sa => k_mem); (case sb => k_extra "m sub")))
  k_with "m same" => (
    intro z h2 h3
    simp only [List.forall_mem_cons, List.not_mem_nil, false_implies, implies_true, and_true, ne_eq] at h2
    simp [kstB, h2])
  k_with "m same2" => (
    intro z h2 h3
    dsimp only [isPs, psOf] at h2
    simp only [List.forall_mem_cons, List.not_mem_nil, false_implies, implies_true, and_true, ne_eq] at h2
    simp only [List.contains_cons, List.contains_nil, Bool.or_false, Bool.or_eq_false_iff, beq_eq_false_iff_ne, ne_eq] at h3
    simp [kstB, h2, h3])
  k_with "m same3" => (
    intro z h2 h3
    simp only [List.forall_mem_cons, List.not_mem_nil, false_implies, implies_true, and_true, ne_eq] at h2
    simp only [List.contains_cons, List.contains_nil, Bool.or_false, beq_eq_false_iff_ne, ne_eq] at h3
    simp [kstB, h2, h3])
  k_with "m same4" => (
    intro z h2 h3
    simp only [List.forall_mem_cons, List.not_mem_nil, false_implies, implies_true, and_true, ne_eq] at h2
    simp only [List.contains_cons, List.contains_nil, Bool.or_false, Bool.or_eq_false_iff, beq_eq_false_iff_ne, ne_eq] at h3
    simp [kstB, h2, h3])
  k_with "m led" => (dsimp only [isLed, osLed, fxL, vD, hD, List.cons_append, List.nil_append]; k_extra "m sub")
  k_with "m ps" => (dsimp only [isPs, psOf]; kst_all)
  k_with "m all" => exact newsOut (by k_asm)
  k_with "m outA" => exact newsSub (by k_asm) (subApp (by k_extra "m sub"))
  k_with "m out" => exact newsSub (by k_asm) (by k_extra "m sub")
  k_with "m t1" => (first | with_reducible exact Take1.head | (refine' Take1.tail ?mt; (case mt => k_extra "m t1")))
  k_with "m take" => (first | exact TakeL.nil | (refine' TakeL.cons ?ma ?mb; (case ma => k_extra "m t1"); (case mb => k_extra "m take")))
  k_with "m cls" => (first | assumption | exact dict_cls (by assumption) | (conv => lhs; whnf))
  k_with "m nocell" => exact rfl
  k_with "m ne" => (first | assumption | (refine Ne.symm ?_; assumption) | (refine' ne_cls ?na ?nb ?nc ?nd ?nf ?ng; (case na => k_asm); (case nb => k_mem); (case nc => k_mem); (case nd => k_extra "m cls"); (case nf => k_extra "m cls"); (case ng => decide)) | (refine' ne_cell ?na ?nb ?nc ?nd ?nf; (case na => k_asm); (case nb => k_mem); (case nc => k_mem); (case nd => assumption); (case nf => k_extra "m nocell")) | (refine Ne.symm ?_; refine' ne_cell ?na ?nb ?nc ?nd ?nf; (case na => k_asm); (case nb => k_mem); (case nc => k_mem); (case nd => assumption); (case nf => k_extra "m nocell")) | (refine neN ?_; (try dsimp only); omega))
  k_with "m ne1" => (first | exact ne1_nil | (refine' ne1_tup ?nt ?nu; (case nt => first | exact rfl | assumption); (case nu => k_extra "m ne1")) | (refine' ne1_cls ?n1 ?n2 ?n3 ?n4; (case n1 => k_extra "m cls"); (case n2 => k_extra "m cls"); (case n3 => decide); (case n4 => k_extra "m ne1")) | (refine' ne1_cell ?n1 ?n2 ?n4; (case n1 => assumption); (case n2 => k_extra "m nocell"); (case n4 => k_extra "m ne1")) | (refine' ne1_cons ?nv ?nw; (case nv => k_extra "m ne"); (case nw => k_extra "m ne1")))
  k_with "m off" => (first | exact off_nil | k_extra "m offop" | (refine' off_consT ?oc ?ob; (case oc => first | exact rfl | assumption); (case ob => k_extra "m off")) | (refine' off_cons ?oa ?ob; (case oa => k_extra "m ne1"); (case ob => k_extra "m off")))
  k_with "m use" => (
    (case hA => exact rfl); (case hf => exact rfl); (case hk => exact rfl); (case hh => exact rfl)
    (case B => k_asm); (case F => k_asm); (case X => k_asm); (case T => k_asm); (case N => k_asm)
    (case hd => exact Nat.le_of_ble_eq_true rfl); (case hu => exact Nat.le_of_ble_eq_true rfl)
    (case tk => k_extra "m take")
    (case off => k_extra "m off"))
  k_with "call ref" => (k_here; k_dflt (k_extra "m call"))
  k_with "compareOp NotIn str ref" => (k_here; k_dflt (refine' notin_tuple_strs ?k1 ?k2 ?_; (case k1 => exact tupK (by k_in) (by k_is)); (case k2 => kde_strs); k_whole))
  k_with "compareOp In str ref" => (k_here; k_dflt (refine' in_tuple_strs ?k1 ?k2 ?_; (case k1 => exact tupK (by k_in) (by k_is)); (case k2 => kde_strs); k_whole))
  k_with "setItem ref str" => (k_here; k_dflt (refine' setItem_K PyProof.V.same_str (strKind_is _ _ _ _) ?v ?F ?N ?U ?d ?f ?_ ?z; (case F => k_asm); (case N => k_asm); (case U => k_updF); (case d => k_asm); (case f => k_asm); (case z => exact line_of_lenLe (n := 5) (by assumption) (by decide)); (case v => k_flat)); intro h' o' F' N' hd' hf'; (try dsimp only at N'); (try k_sweep))
  k_with "compareOp Eq ref str" => (k_here; k_dflt (refine' eq_tup_str ?k1 ?k2 ?k3 ?_; (case k1 => k_asm); (case k2 => k_mem); (case k3 => exact Nat.le_of_ble_eq_true rfl); k_whole))
  k_with "CompSrc" => (k_here; k_dflt (k_extra "m src"))
  k_with "CompEnd" => (k_here; k_extra "m compend")
  k_with "call builtin:sorted" => (k_here; k_dflt (k_extra "m sorted"))
  k_with "compareOp NotEq str str" => (k_here; k_extra "m neq")
  k_with "compareOp Eq str str" => (k_here; k_extra "m eqs")
  k_with "call builtin:str.join" => (k_here; k_dflt (k_extra "m join"))
  k_with "eval Lambda" => (k_here; k_dflt (k_extra "m lam"))
  k_with "compareOp NotEq int int" => (k_here; k_dflt (k_extra "m neqi"))
  k_with "compareOp NotEq ref ref" => (k_here; k_dflt (k_extra "m neqt"))
  k_with "call builtin:len" => (k_here; k_dflt (k_extra "m len"))
  k_with "binaryOp Add ref ref" => (k_here; k_dflt (k_extra "m addl"))
  k_with "eval ListComp" => (k_here; k_extra "m comp")
  k_with "subscriptTail" => (k_here; k_dflt (k_extra "m item"))
  k_with "execs cons" => (k_here; k_extra "m stmt")
  trivial
theorem chain_of {m : Str → Option Value} : ∀ (ps : List (Str × Value)), (∀ p ∈ ps, m p.1 = some p.2) → m = fun y => (ps.lookup y).or (m y) := fun ps h => by
  funext y
  induction ps with
  | nil => rfl
  | cons p r ih =>
    rw [List.lookup_cons]
    by_cases hy : (y == p.1) = true
    · rw [hy]; rw [eq_of_beq hy, h p (.head _)]; rfl
    · rw [Bool.eq_false_iff.mpr hy]; exact ih fun q hq => h q (.tail _ hq)
inductive Ck (m : Str → Option Value) : List (Str × Value) → Prop
  | nil : Ck m []
  | cons {k : Str} {v : Value} {r : List (Str × Value)} (h : m k = some v) (t : Ck m r) : Ck m ((k, v) :: r)
theorem Ck.all {m : Str → Option Value} {ps : List (Str × Value)} (h : Ck m ps) : ∀ p ∈ ps, m p.1 = some p.2 := by
  induction h with
  | nil => exact allNil
  | cons h _ ih => exact allCons h ih
theorem chain_ofC {m : Str → Option Value} (ps : List (Str × Value)) (h : Ck m ps) : m = fun y => (ps.lookup y).or (m y) := chain_of ps h.all
/-- the ledger's tuples of ints that a list holds -/
inductive Trip : List Value → Led → List (Int × Int × Int) → Prop
  | nil : Trip [] [] []
  | cons {a : Addr} {n f l : Int} {t1 t2 t3 : Tok} {vs pl ts} : Trip vs pl ts → Trip (.ref a :: vs) ((a, tup [.int n t1, .int f t2, .int l t3]) :: pl) ((n, f, l) :: ts)
def cutT (at_ b e : Int) : List (Int × Int × Int) → List (Int × Int × Int)
  | [] => []
  | (n, f, l) :: r => (if (if 0 > b - at_ then 0 else b - at_) < (if l - f < e - at_ then l - f else e - at_) then [(n, f + (if 0 > b - at_ then 0 else b - at_), f + (if l - f < e - at_ then l - f else e - at_))] else []) ++ cutT (at_ + l - f) b e r
theorem Trip.len {vs pl ts} (h : Trip vs pl ts) : vs.length = ts.length := by induction h with | nil => rfl | cons _ ih => simp [ih]
theorem Trip.append {vs pl ts vs' pl' ts'} (h : Trip vs pl ts) (h' : Trip vs' pl' ts') : Trip (vs ++ vs') (pl ++ pl') (ts ++ ts') := by
  induction h with | nil => exact h' | cons _ ih => exact .cons ih
theorem Trip.tup {vs pl ts} (h : Trip vs pl ts) : ∀ p ∈ pl, p.2.cls = TUP := by
  induction h with
  | nil => intro p hp; cases hp
  | cons _ ih => intro p hp; cases hp with
    | head => rfl
    | tail _ hp => exact ih p hp
theorem offTup {g h : Heap} {L a : Addr} {o : Obj} {news op : Led} {c : Value} (N : News g L h news) (hm : (a, o) ∈ news) (hs : ∀ p ∈ op, p ∈ news) (ht : ∀ p ∈ op, p.2.cls = TUP) (hc : o.cls = c) (hn : c ≠ TUP) : ∀ p ∈ op, p.1 ≠ a := fun p hp e => by
  have h1 := (N p (hs p hp)).1
  have h2 := (N _ hm).1
  rw [e, h2] at h1
  have := ht p hp
  rw [← Option.some.inj h1, hc] at this
  exact hn this
section
variable {prog : Program} {w : World} {A : Around} {E : Value → Shared → Prop} {s : Shared} {env : Env} {h₀ : Heap} {target : PySem.Expr} {body : List Stmt} {Q : Flow → Shared → Prop}
theorem items_ind {I : Addr} {keep : Led} (Inv : List Value → (Str → Option Value) → Led → Prop)
    (step : ∀ v r m news, Inv (v :: r) m news → ∀ (it : Obj) h tk, it.cls = .type "list_iterator" → Fr h₀ env.locals h m → News h₀ env.locals h ((I, it) :: news) →
      wpAny (model prog w) A (assign target env v) (fun _ s₂ => wpAny (model prog w) A (execs body env) (UnrPostW h₀ env.locals { s with heap := h, toks := tk } [(I, it)] (fun m' n' => SubL keep n' ∧ Inv r m' n') Q) E s₂) E { s with heap := h, toks := tk })
    (done : ∀ m news, Inv [] m news → ∀ h tk, Fr h₀ env.locals h m → News h₀ env.locals h news → Q .next { s with heap := h, toks := tk }) :
    ∀ (vs : List Value) m news, Inv vs m news → ItemsRest prog w A E h₀ env target body Q s [(I, "list_iterator")] keep (vs.map .val) m news
  | [], m, news, h => ItemsRest.zero fun h' tk F N => done m news h h' tk F N
  | v :: r, m, news, h => ItemsRest.val fun h' tk F => AllObj.cons fun o ho => AllObj.nil fun N =>
      wpAny_mono (step v r m news h o h' tk ho F N) (fun _ s₂ q => wpAny_mono q (fun f s₃ p => by
        have fin : ∀ s₃, UnrEndW h₀ env.locals { s with heap := h', toks := tk } [(I, o)] (fun m' n' => SubL keep n' ∧ Inv r m' n') s₃ → UnrEndW h₀ env.locals { s with heap := h', toks := tk } [(I, o)] (fun m' n' => SubL keep n' ∧ ItemsRest prog w A E h₀ env target body Q s [(I, "list_iterator")] keep (r.map .val) m' n') s₃ :=
          fun s₃ ⟨a, b, c, d, e, f, g, k, l, i⟩ => ⟨a, b, c, d, e, f, g, k, l, items_ind Inv step done r _ _ i⟩
        cases f with
        | ret v => exact p
        | brk => exact p
        | next => exact fin _ p
        | cont => exact fin _ p) fun _ _ e => e) fun _ _ e => e
theorem iter_listInv {ax : Addr} {lo : Obj} {vs : List Value} {n : Nat} {m₀ : Str → Option Value} {news : Led} (Inv : Addr → List Value → (Str → Option Value) → Led → Prop)
    (hh : A.handled = none) (F : Fr h₀ env.locals s.heap m₀) (N : News h₀ env.locals s.heap news) (hm : (ax, lo) ∈ news) (hc : lo.cls = .type "list") (hd : lo.data = .seq vs.toArray n)
    (h0 : ∀ I, (∀ p ∈ news, p.1 < I) → Inv I vs m₀ news)
    (step : ∀ I v r m news, Inv I (v :: r) m news → ∀ (it : Obj) h tk, it.cls = .type "list_iterator" → Fr h₀ env.locals h m → News h₀ env.locals h ((I, it) :: news) →
      wpAny (model prog w) A (assign target env v) (fun _ s₂ => wpAny (model prog w) A (execs body env) (UnrPostW h₀ env.locals { s with heap := h, toks := tk } [(I, it)] (fun m' n' => SubL [(ax, lo)] n' ∧ Inv I r m' n') Q) E s₂) E { s with heap := h, toks := tk })
    (done : ∀ I m news, Inv I [] m news → ∀ h tk, Fr h₀ env.locals h m → News h₀ env.locals h news → Q .next { s with heap := h, toks := tk }) :
    wpAny (model prog w) A (pyIter (.ref ax)) (fun it s₂ => TurnsAt prog w A h₀ env target body Q E it s₂) E s :=
  iter_listTurns hh F N hm hc hd fun I hI => items_ind (Inv I) (step I) (done I) vs m₀ news (h0 I hI)
end
theorem setL {m : Str → Option Value} {P : (Str → Option Value) → Prop} (ps : List (Str × Value)) (h : ∀ p ∈ ps, m p.1 = some p.2) (k : P m) : P (fun y => (ps.lookup y).or (m y)) := chain_of ps h ▸ k
theorem subCat {ow pl l : Led} {x : Addr × Obj} (h : ∀ p ∈ ow ++ pl, p ∈ l) (hx : x ∈ l) : ∀ p ∈ (ow ++ [x]) ++ pl, p ∈ l := fun p hp => by
  rcases List.mem_append.mp hp with hp | hp
  · rcases List.mem_append.mp hp with hp | hp
    · exact h p (List.mem_append_left _ hp)
    · exact List.mem_singleton.mp hp ▸ hx
  · exact h p (List.mem_append_right _ hp)
theorem clsTwo {ow pl : Led} (h1 : ∀ p ∈ ow, p.2.cls = TUP) (h3 : ∀ p ∈ pl, p.2.cls = TUP) : ∀ p ∈ ow ++ pl, p.2.cls ≠ .type "list_iterator" := fun p hp e => by
  have h := (List.mem_append.mp hp).elim (h1 p) (h3 p)
  rw [h] at e
  exact absurd (Value.type.inj e) (by decide)
inductive CutInv (pa fa : Addr) (b e : Int) (tb te : Tok) (vs : List Value) (k : Nat) (pl : Led) (ts : List (Int × Int × Int)) (vs2 : List Value) (m : Str → Option Value) (news : Led) : Prop
  | mk (pl2 : Led) (ts2 : List (Int × Int × Int)) (ws : List Value) (ow : Led) (us : List (Int × Int × Int)) (kf : Nat) (a : Int) (ta : Tok) (u : Str → Option Value) (q0 : m = (fun y => ([(Str.ofString "found", Value.ref fa), (Str.ofString "at", .int a ta), (Str.ofString "pieces", .ref pa), (Str.ofString "begin", .int b tb), (Str.ofString "end", .int e te)].lookup y).or (u y))) (q1 : news = (fa, listOf ws.toArray kf) :: (pa, listOf vs.toArray k) :: (ow ++ pl)) (q2 : Trip vs2 pl2 ts2) (q3 : (∀ p ∈ pl2, p ∈ pl)) (q4 : (∀ q ∈ ts2, 0 ≤ q.2.1 ∧ q.2.1 ≤ q.2.2 ∧ q.2.2 < 1000)) (q5 : Trip ws ow us) (q6 : ws.length + vs2.length < 40) (q7 : 0 ≤ a) (q8 : a + 1000 * (vs2.length : Int) < 50000) (q9 : us ++ cutT a b e ts2 = cutT 0 b e ts)
theorem offIt {g h : Heap} {L I : Addr} {it : Obj} {news' : Led} (N : News g L h ([(I, it)] ++ news')) (hc : it.cls = .type "list_iterator") (ht : ∀ p ∈ news', p.2.cls ≠ .type "list_iterator") : ∀ p ∈ news', ∀ q ∈ [(I, it)], p.1 ≠ q.1 := fun p hp q hq e => by
  rw [List.mem_singleton.mp hq] at e
  have h1 := (N p (List.mem_append_right _ hp)).1
  have h2 := (N (I, it) (.head _)).1
  rw [e, h2] at h1
  exact ht p hp (by rw [← Option.some.inj h1, hc])
theorem cut_spec {w : World} {lo : List Str} {mean mg mb} {pa : Addr} {vs : List Value} {pl : Led} {ts : List (Int × Int × Int)} {b e : Int} {tb te : Tok} {k : Nat}
    (ht : Trip vs pl ts) (hb : 0 ≤ b ∧ b < 1000) (he : 0 ≤ e ∧ e < 1000) (hx : vs.length < 40) (hts : ∀ q ∈ ts, 0 ≤ q.2.1 ∧ q.2.1 ≤ q.2.2 ∧ q.2.2 < 1000) :
    Spec w lo mean mg mb 700 2500 467 [.ref pa, .int b tb, .int e te]
      ((pa, listOf vs.toArray k) :: pl)
      (fun r post => ∃ (fa : Addr) (vs' : List Value) (pl' : Led) (k' : Nat), r = .ref fa ∧ Trip vs' pl' (cutT 0 b e ts) ∧ @Ne Nat fa pa ∧ post = (fa, listOf vs'.toArray k') :: (pa, listOf vs.toArray k) :: (pl' ++ pl)) := by
  intro gd frs base g s Q E B X T st sz N hret
  have hlenp : vs.length < 40 := hx
  k_with "exec For Tuple Name cons nil" => (refine' For_turns ?lF ?_ ?hs ?hE; (case lF => k_asm); (case hs => exact fun _ => rfl); (case hE => (try k_unfold); (try dsimp only); with_unfolding_all passes_own); k_whole)
  k_with "pyIter ref" => (refine stopHere ?_)
  k_with "UnrEndW" => (refine stopHere ?_)
  refine' enterS [(Str.ofString "pieces", .ref pa), (Str.ofString "begin", .int b tb), (Str.ofString "end", .int e te)] ?k1 ?k2 ?k3 ?k4 ?k5 ?k6 ?k7 ?hb ?hs ?k8 ?k9 ?k10 ?k11 ?_ ?c1 ?c2 ?c3 ?c4
  k_extra "m enter"
  k_steps
  unfold Stop
  rename_i tk0 fa h4 l1 D1 h3 l2 h2 h1 h0 F' N'
  have hne : @Ne Nat fa pa := (Nat.ne_of_lt l1.1).symm
  have hop := Trip.tup ht
  refine iter_listInv (fun _ => CutInv pa fa b e tb te vs k pl ts) rfl F' (newsSub2 (post := (fa, listOf [].toArray 0) :: (pa, listOf vs.toArray k) :: ([] ++ pl)) N' ?_) (.tail _ (.head _)) rfl rfl ?_ ?_ ?_
  · intro p hp
    exact .tail _ hp
  · intro I _
    refine ⟨pl, ts, [], [], [], 0, 0, tk0, _, chain_ofC _ (by exact .cons (by rfl) (.cons (by rfl) (.cons (by rfl) (.cons (by rfl) (.cons (by rfl) (.nil)))))), rfl, ht, fun p hp => hp, hts, .nil, by simpa using hx, Int.le_refl _, by omega, rfl⟩
  · clear F' N' l1 l2
    rintro I v r m news ⟨pl2, ts2, ws, ow, us, kf, a, ta, u, rfl, rfl, ht2, hsub, hts2, htw, hlen, ha, ha2, heq⟩ it h' tk1 hit F N
    cases ht2 with
    | @cons x n f l t1 t2 t3 r pl2 ts2 ht2 =>
      have hq := hts2 _ (.head _)
      simp only [List.length_cons] at hlen ha2
      dsimp only at hq
      have hoo : ∀ p ∈ ow ++ pl, p.1 ≠ fa := offTup N (.tail _ (.head _)) (fun p hp => .tail _ (.tail _ (.tail _ hp))) (fun p hp => (List.mem_append.mp hp).elim (htw.tup p) (hop p)) (c := .type "list") rfl (by decide)
      have N2 : News g L h' ((I, it) :: (x, tup [.int n t1, .int f t2, .int l t3]) :: (fa, listOf ws.toArray kf) :: (pa, listOf vs.toArray k) :: (ow ++ pl)) := newsSub2 N (fun p hp => by
        cases hp with
        | head => exact .head _
        | tail _ hp => cases hp with
          | head => exact .tail _ (.tail _ (.tail _ (List.mem_append_right _ (hsub _ (.head _)))))
          | tail _ hp => exact .tail _ hp)
      clear N
      k_steps
      · rename_i tk3 g1 tk2 g2 D1 g3 l1 g4 g5 g6 tk1 hlt D2 g7 l2 g8 g9 F1 N1
        unfold Stop
        rw [List.push_toArray] at N1
        have N3 : News g L g9 ([(I, it)] ++ ((fa, listOf (ws ++ [Value.ref D2]).toArray (kf + 1)) :: (pa, listOf vs.toArray k) :: ((ow ++ [(D2, tup [.int n t1, .int (f + if 0 > b - a then 0 else b - a) tk1, .int (f + if l - f < e - a then l - f else e - a) (tk1 + 1)])]) ++ pl))) :=
          newsSub2 N1 (post := (I, it) :: (fa, _) :: (pa, _) :: ((ow ++ [(D2, _)]) ++ pl)) (subCons (by k_mem) (subCons (by k_mem) (subCons (by k_mem) (subCat (by k_extra "m sub") (by k_mem)))))
        refine ⟨_, _, _, _, rfl, F1, N3, offIt N3 hit (allCons (fun e => nomatch Value.type.inj e) (allCons (fun e => nomatch Value.type.inj e) (clsTwo (fun p hp => (List.mem_append.mp hp).elim (htw.tup p) fun h => by rw [List.mem_singleton.mp h]) hop))), ⟨.tail _ (.head _), trivial⟩, pl2, ts2, ws ++ [Value.ref D2], _, us ++ [(n, f + (if 0 > b - a then 0 else b - a), f + (if l - f < e - a then l - f else e - a))], _, a + l - f, tk + 1, _, chain_ofC _ (by exact .cons (by rfl) (.cons (by rfl) (.cons (by rfl) (.cons (by rfl) (.cons (by rfl) (.nil)))))), rfl, ht2, fun p hp => hsub p (.tail _ hp), fun q hq => hts2 q (.tail _ hq), htw.append (.cons .nil), ?_, ?_, ?_, ?_⟩
        · simp only [List.length_append, List.length_singleton]; omega
        · omega
        · omega
        · rw [← heq]
          show (us ++ [_]) ++ _ = us ++ ((if _ then _ else _) ++ _)
          rw [if_pos hlt, List.append_assoc]
      · rename_i tk3 g1 tk2 g2 D1 g3 l1 g4 g5 g6 hlt g9 F1 N1
        unfold Stop
        have N3 : News g L g9 ([(I, it)] ++ ((fa, listOf ws.toArray kf) :: (pa, listOf vs.toArray k) :: (ow ++ pl))) :=
          newsSub2 N1 (post := (I, it) :: (fa, _) :: (pa, _) :: (ow ++ pl)) (subCons (by k_mem) (subCons (by k_mem) (subCons (by k_mem) (by k_extra "m sub"))))
        refine ⟨_, _, _, _, rfl, F1, N3, offIt N3 hit (allCons (fun e => nomatch Value.type.inj e) (allCons (fun e => nomatch Value.type.inj e) (clsTwo htw.tup hop))), ⟨.tail _ (.head _), trivial⟩, pl2, ts2, ws, _, us, _, a + l - f, tk + 1, _, chain_ofC _ (by exact .cons (by rfl) (.cons (by rfl) (.cons (by rfl) (.cons (by rfl) (.cons (by rfl) (.nil)))))), rfl, ht2, fun p hp => hsub p (.tail _ hp), fun q hq => hts2 q (.tail _ hq), htw, ?_, ?_, ?_, ?_⟩
        · omega
        · omega
        · omega
        · rw [← heq]
          show us ++ _ = us ++ ((if _ then _ else _) ++ _)
          rw [if_neg hlt]; rfl
  · clear F' N' l1 l2
    rintro I m news ⟨pl2, ts2, ws, ow, us, kf, a, ta, u, rfl, rfl, ht2, hsub, hts2, htw, hlen, ha, ha2, heq⟩ h' tk1 F N
    cases ht2
    rw [cutT, List.append_nil] at heq
    subst heq
    k_steps
    (try k_unfold)
    (try dsimp only)
    refine hret _ _ _ (Fr.keep (by k_asm)) (newsOut (post := (fa, listOf ws.toArray kf) :: (pa, listOf vs.toArray k) :: (ow ++ pl)) (by k_asm)) ⟨fa, ws, ow, kf, rfl, htw, hne, rfl⟩ (kept_not (c := .type "list") rfl (by decide) (fun p hp _ => (newsOut (post := (fa, listOf ws.toArray kf) :: (pa, listOf vs.toArray k) :: (ow ++ pl)) (by k_asm) p (.tail _ (.tail _ (List.mem_append_right _ hp)))).1))
end

section
theorem regMB2 : (fun (_ : OpenLaw) (_ : Params → Frag) => True) PySem.Challenge.rw_sj0197_01 KF := by
  k_with_none
  k_with "m enter" => (
    (case k1 => exact B); (case k2 => exact X); (case k3 => exact T); (case k4 => exact st); (case k5 => exact sz); (case k6 => exact N)
    (case k7 => k_dflt k_is)
    (case hb => (conv => lhs; whnf))
    (case hs => (conv => lhs; whnf))
    (case k8 => k_dflt k_is)
    (case k9 => decide)
    (case k10 => exact BindsTo.of_eq rfl)
    (case k11 => exact locs rfl)
    (case c1 => exact rfl); (case c2 => exact rfl); (case c3 => exact rfl); (case c4 => decide)
    clear st sz N
    intro L h F N'
    (try dsimp only)
    (try k_fold))
  k_with "m end" => ((try k_unfold); (try dsimp only); refine' hret _ _ _ ?e1 ?e2 ?e3 ?e4; (case e1 => exact Fr.keep (by k_asm)); (case e4 => k_extra "m kept"))
  k_with "m kept" => (first | exact kept_nil | (refine' kept_tup ?ka ?kb ?kc; (case ka => k_asm); (case kb => k_mem); (case kc => k_extra "m kept")) | (refine' kept_not ?kd ?ke ?kf; (case kd => k_extra "m cls"); (case ke => decide); (case kf => k_extra "m kept")))
  k_with "m sub" => (first | exact subNil | exact subRefl | (refine' subStep ?su; (case su => k_extra "m sub")) | (refine' subUpS ?sk ?su; (case sk => ((fail_if_success (refine skipOf ?_; k_mem)); exact trivial)); (case su => k_extra "m sub")) | (refine' subCons ?sa ?sb; (case sa => k_mem); (case sb => k_extra "m sub")))
  k_with "m same" => (
    intro z h2 h3
    simp only [List.forall_mem_cons, List.not_mem_nil, false_implies, implies_true, and_true, ne_eq] at h2
    simp [kstB, h2])
  k_with "m same2" => (
    intro z h2 h3
    dsimp only [isPs, psOf] at h2
    simp only [List.forall_mem_cons, List.not_mem_nil, false_implies, implies_true, and_true, ne_eq] at h2
    simp only [List.contains_cons, List.contains_nil, Bool.or_false, Bool.or_eq_false_iff, beq_eq_false_iff_ne, ne_eq] at h3
    simp [kstB, h2, h3])
  k_with "m same3" => (
    intro z h2 h3
    simp only [List.forall_mem_cons, List.not_mem_nil, false_implies, implies_true, and_true, ne_eq] at h2
    simp only [List.contains_cons, List.contains_nil, Bool.or_false, beq_eq_false_iff_ne, ne_eq] at h3
    simp [kstB, h2, h3])
  k_with "m same4" => (
    intro z h2 h3
    simp only [List.forall_mem_cons, List.not_mem_nil, false_implies, implies_true, and_true, ne_eq] at h2
    simp only [List.contains_cons, List.contains_nil, Bool.or_false, Bool.or_eq_false_iff, beq_eq_false_iff_ne, ne_eq] at h3
    simp [kstB, h2, h3])
  k_with "m led" => (dsimp only [isLed, osLed, fxL, vD, hD, List.cons_append, List.nil_append]; k_extra "m sub")
  k_with "m ps" => (dsimp only [isPs, psOf]; kst_all)
  k_with "m all" => exact newsOut (by k_asm)
  k_with "m outA" => exact newsSub (by k_asm) (subApp (by k_extra "m sub"))
  k_with "m out" => exact newsSub (by k_asm) (by k_extra "m sub")
  k_with "m t1" => (first | with_reducible exact Take1.head | (refine' Take1.tail ?mt; (case mt => k_extra "m t1")))
  k_with "m take" => (first | exact TakeL.nil | (refine' TakeL.cons ?ma ?mb; (case ma => k_extra "m t1"); (case mb => k_extra "m take")))
  k_with "m cls" => (first | assumption | exact dict_cls (by assumption) | (conv => lhs; whnf))
  k_with "m nocell" => exact rfl
  k_with "m ne" => (first | assumption | (refine Ne.symm ?_; assumption) | (refine' ne_cls ?na ?nb ?nc ?nd ?nf ?ng; (case na => k_asm); (case nb => k_mem); (case nc => k_mem); (case nd => k_extra "m cls"); (case nf => k_extra "m cls"); (case ng => decide)) | (refine' ne_cell ?na ?nb ?nc ?nd ?nf; (case na => k_asm); (case nb => k_mem); (case nc => k_mem); (case nd => assumption); (case nf => k_extra "m nocell")) | (refine Ne.symm ?_; refine' ne_cell ?na ?nb ?nc ?nd ?nf; (case na => k_asm); (case nb => k_mem); (case nc => k_mem); (case nd => assumption); (case nf => k_extra "m nocell")) | (refine neN ?_; (try dsimp only); omega))
  k_with "m ne1" => (first | exact ne1_nil | (refine' ne1_tup ?nt ?nu; (case nt => first | exact rfl | assumption); (case nu => k_extra "m ne1")) | (refine' ne1_cls ?n1 ?n2 ?n3 ?n4; (case n1 => k_extra "m cls"); (case n2 => k_extra "m cls"); (case n3 => decide); (case n4 => k_extra "m ne1")) | (refine' ne1_cell ?n1 ?n2 ?n4; (case n1 => assumption); (case n2 => k_extra "m nocell"); (case n4 => k_extra "m ne1")) | (refine' ne1_cons ?nv ?nw; (case nv => k_extra "m ne"); (case nw => k_extra "m ne1")))
  k_with "m off" => (first | exact off_nil | k_extra "m offop" | (refine' off_consT ?oc ?ob; (case oc => first | exact rfl | assumption); (case ob => k_extra "m off")) | (refine' off_cons ?oa ?ob; (case oa => k_extra "m ne1"); (case ob => k_extra "m off")))
  k_with "m use" => (
    (case hA => exact rfl); (case hf => exact rfl); (case hk => exact rfl); (case hh => exact rfl)
    (case B => k_asm); (case F => k_asm); (case X => k_asm); (case T => k_asm); (case N => k_asm)
    (case hd => exact Nat.le_of_ble_eq_true rfl); (case hu => exact Nat.le_of_ble_eq_true rfl)
    (case tk => k_extra "m take")
    (case off => k_extra "m off"))
  k_with "call ref" => (k_here; k_dflt (k_extra "m call"))
  k_with "compareOp NotIn str ref" => (k_here; k_dflt (refine' notin_tuple_strs ?k1 ?k2 ?_; (case k1 => exact tupK (by k_in) (by k_is)); (case k2 => kde_strs); k_whole))
  k_with "compareOp In str ref" => (k_here; k_dflt (refine' in_tuple_strs ?k1 ?k2 ?_; (case k1 => exact tupK (by k_in) (by k_is)); (case k2 => kde_strs); k_whole))
  k_with "setItem ref str" => (k_here; k_dflt (refine' setItem_K PyProof.V.same_str (strKind_is _ _ _ _) ?v ?F ?N ?U ?d ?f ?_ ?z; (case F => k_asm); (case N => k_asm); (case U => k_updF); (case d => k_asm); (case f => k_asm); (case z => exact line_of_lenLe (n := 5) (by assumption) (by decide)); (case v => k_flat)); intro h' o' F' N' hd' hf'; (try dsimp only at N'); (try k_sweep))
  k_with "compareOp Eq ref str" => (k_here; k_dflt (refine' eq_tup_str ?k1 ?k2 ?k3 ?_; (case k1 => k_asm); (case k2 => k_mem); (case k3 => exact Nat.le_of_ble_eq_true rfl); k_whole))
  k_with "CompSrc" => (k_here; k_dflt (k_extra "m src"))
  k_with "CompEnd" => (k_here; k_extra "m compend")
  k_with "call builtin:sorted" => (k_here; k_dflt (k_extra "m sorted"))
  k_with "compareOp NotEq str str" => (k_here; k_extra "m neq")
  k_with "compareOp Eq str str" => (k_here; k_extra "m eqs")
  k_with "call builtin:str.join" => (k_here; k_dflt (k_extra "m join"))
  k_with "eval Lambda" => (k_here; k_dflt (k_extra "m lam"))
  k_with "compareOp NotEq int int" => (k_here; k_dflt (k_extra "m neqi"))
  k_with "compareOp NotEq ref ref" => (k_here; k_dflt (k_extra "m neqt"))
  k_with "call builtin:len" => (k_here; k_dflt (k_extra "m len"))
  k_with "binaryOp Add ref ref" => (k_here; k_dflt (k_extra "m addl"))
  k_with "eval ListComp" => (k_here; k_extra "m comp")
  k_with "subscriptTail" => (k_here; k_dflt (k_extra "m item"))
  k_with "execs cons" => (k_here; k_extra "m stmt")
  trivial
theorem three_pieces_spec {w : World} {lo : List Str} {mean mg mb} {S : Str} {ts : Tok} {fa : Addr} {b e : Int} {tb te : Tok} {x : Value} (h3 : S.length < 1000) :
    Spec w lo mean mg mb 460 400 28 [.str S ts, .ref fa] [(fa, tup [.int b tb, .int e te, x])] (fun r post => ∃ ra t1 t2 t3, r = .ref ra ∧ post = [(ra, tup [.str (Txt.slice S none (some b)) t1, .str (Txt.slice S (some b) (some e)) t2, .str (Txt.slice S (some e) none) t3]), (fa, tup [.int b tb, .int e te, x])] ∧ (Txt.slice S none (some b)).length ≤ S.length ∧ (Txt.slice S (some b) (some e)).length ≤ S.length ∧ (Txt.slice S (some e) none).length ≤ S.length) := by
  intro gd frs base g s Q E B X T st sz N hret
  refine' enterS [(Str.ofString "subject", .str S ts), (Str.ofString "found", .ref fa)] ?k1 ?k2 ?k3 ?k4 ?k5 ?k6 ?k7 ?hb ?hs ?k8 ?k9 ?k10 ?k11 ?_ ?c1 ?c2 ?c3 ?c4
  k_extra "m enter"
  k_steps
  k_extra "m end"
  (case e2 => k_extra "m all")
  (case e3 => exact ⟨_, _, _, _, rfl, rfl, Txt.length_slice_le _ _ _, Txt.length_slice_le _ _ _, Txt.length_slice_le _ _ _⟩)
theorem spliced_spec {w : World} {lo : List Str} {mean mg mb} {S : Str} {ts : Tok} {fa : Addr} {b e : Int} {tb te : Tok} {x : Value} {Y : Str} {ty : Tok} (h3 : S.length < 1000) (h4 : Y.length < 1000) :
    Spec w lo mean mg mb 450 300 35 [.str S ts, .ref fa, .str Y ty] [(fa, tup [.int b tb, .int e te, x])] (fun r post => ∃ t, r = .str (Txt.slice S none (some b) ++ Y ++ Txt.slice S (some e) none) t ∧ post = [(fa, tup [.int b tb, .int e te, x])]) := by
  intro gd frs base g s Q E B X T st sz N hret
  refine' enterS [(Str.ofString "subject", .str S ts), (Str.ofString "found", .ref fa), (Str.ofString "text", .str Y ty)] ?k1 ?k2 ?k3 ?k4 ?k5 ?k6 ?k7 ?hb ?hs ?k8 ?k9 ?k10 ?k11 ?_ ?c1 ?c2 ?c3 ?c4
  k_extra "m enter"
  k_with "m call" => (
    refine' use_spec ?B ?F ?X ?T ?N ?hA ?hf ?hk ?hh ?hd ?hu (three_pieces_spec ?p1) ?tk ?off ?_
    k_extra "m use"
    (case p1 => omega)
    k_whole
    rintro _ h' tk' _ F' N' ⟨ra, t1, t2, t3, rfl, rfl, hl1, hl2, hl3⟩ _
    (try dsimp only [List.cons_append, List.nil_append] at N')
    (try dsimp only)
    (try k_fold))
  k_steps
  k_extra "m end"
  (case e3 => exact ⟨_, rfl, rfl⟩)
  (case e2 => k_extra "m out")
theorem replaced_spec {w : World} {lo : List Str} {mean mg mb} {S : Str} {ts : Tok} {b e : Int} {tb te : Tok} {Y : Str} {ty : Tok} (h3 : S.length < 1000) (h4 : Y.length < 1000) :
    Spec w lo mean mg mb 450 300 352 [.str S ts, .int b tb, .int e te, .str Y ty] [] (fun r post => ∃ t, r = .str (Txt.slice S none (some b) ++ Y ++ Txt.slice S (some e) none) t ∧ post = []) := by
  intro gd frs base g s Q E B X T st sz N hret
  refine' enterS [(Str.ofString "subject", .str S ts), (Str.ofString "begin", .int b tb), (Str.ofString "end", .int e te), (Str.ofString "text", .str Y ty)] ?k1 ?k2 ?k3 ?k4 ?k5 ?k6 ?k7 ?hb ?hs ?k8 ?k9 ?k10 ?k11 ?_ ?c1 ?c2 ?c3 ?c4
  k_extra "m enter"
  k_steps
  k_extra "m end"
  (case e3 => exact ⟨_, rfl, rfl⟩)
  (case e2 => k_extra "m out")
end

section
theorem regMB3 : (fun (_ : OpenLaw) (_ : Params → Frag) => True) PySem.Challenge.rw_sj0197_01 KF := by
  k_with_none
  k_with "m enter" => (
    (case k1 => exact B); (case k2 => exact X); (case k3 => exact T); (case k4 => exact st); (case k5 => exact sz); (case k6 => exact N)
    (case k7 => k_dflt k_is)
    (case hb => (conv => lhs; whnf))
    (case hs => (conv => lhs; whnf))
    (case k8 => k_dflt k_is)
    (case k9 => decide)
    (case k10 => exact BindsTo.of_eq rfl)
    (case k11 => exact locs rfl)
    (case c1 => exact rfl); (case c2 => exact rfl); (case c3 => exact rfl); (case c4 => decide)
    clear st sz N
    intro L h F N'
    (try dsimp only)
    (try k_fold))
  k_with "m end" => ((try k_unfold); (try dsimp only); refine' hret _ _ _ ?e1 ?e2 ?e3 ?e4; (case e1 => exact Fr.keep (by k_asm)); (case e4 => k_extra "m kept"))
  k_with "m kept" => (first | exact kept_nil | (refine' kept_tup ?ka ?kb ?kc; (case ka => k_asm); (case kb => k_mem); (case kc => k_extra "m kept")) | (refine' kept_not ?kd ?ke ?kf; (case kd => k_extra "m cls"); (case ke => decide); (case kf => k_extra "m kept")))
  k_with "m sub" => (first | exact subNil | exact subRefl | (refine' subStep ?su; (case su => k_extra "m sub")) | (refine' subUpS ?sk ?su; (case sk => ((fail_if_success (refine skipOf ?_; k_mem)); exact trivial)); (case su => k_extra "m sub")) | (refine' subCons ?sa ?sb; (case sa => k_mem); (case sb => k_extra "m sub")))
  k_with "m same" => (
    intro z h2 h3
    simp only [List.forall_mem_cons, List.not_mem_nil, false_implies, implies_true, and_true, ne_eq] at h2
    simp [kstB, h2])
  k_with "m same2" => (
    intro z h2 h3
    dsimp only [isPs, psOf] at h2
    simp only [List.forall_mem_cons, List.not_mem_nil, false_implies, implies_true, and_true, ne_eq] at h2
    simp only [List.contains_cons, List.contains_nil, Bool.or_false, Bool.or_eq_false_iff, beq_eq_false_iff_ne, ne_eq] at h3
    simp [kstB, h2, h3])
  k_with "m same3" => (
    intro z h2 h3
    simp only [List.forall_mem_cons, List.not_mem_nil, false_implies, implies_true, and_true, ne_eq] at h2
    simp only [List.contains_cons, List.contains_nil, Bool.or_false, beq_eq_false_iff_ne, ne_eq] at h3
    simp [kstB, h2, h3])
  k_with "m same4" => (
    intro z h2 h3
    simp only [List.forall_mem_cons, List.not_mem_nil, false_implies, implies_true, and_true, ne_eq] at h2
    simp only [List.contains_cons, List.contains_nil, Bool.or_false, Bool.or_eq_false_iff, beq_eq_false_iff_ne, ne_eq] at h3
    simp [kstB, h2, h3])
  k_with "m led" => (dsimp only [isLed, osLed, fxL, vD, hD, List.cons_append, List.nil_append]; k_extra "m sub")
  k_with "m ps" => (dsimp only [isPs, psOf]; kst_all)
  k_with "m all" => exact newsOut (by k_asm)
  k_with "m outA" => exact newsSub (by k_asm) (subApp (by k_extra "m sub"))
  k_with "m out" => exact newsSub (by k_asm) (by k_extra "m sub")
  k_with "m t1" => (first | with_reducible exact Take1.head | (refine' Take1.tail ?mt; (case mt => k_extra "m t1")))
  k_with "m take" => (first | exact TakeL.nil | (refine' TakeL.cons ?ma ?mb; (case ma => k_extra "m t1"); (case mb => k_extra "m take")))
  k_with "m cls" => (first | assumption | exact dict_cls (by assumption) | (conv => lhs; whnf))
  k_with "m nocell" => exact rfl
  k_with "m ne" => (first | assumption | (refine Ne.symm ?_; assumption) | (refine' ne_cls ?na ?nb ?nc ?nd ?nf ?ng; (case na => k_asm); (case nb => k_mem); (case nc => k_mem); (case nd => k_extra "m cls"); (case nf => k_extra "m cls"); (case ng => decide)) | (refine' ne_cell ?na ?nb ?nc ?nd ?nf; (case na => k_asm); (case nb => k_mem); (case nc => k_mem); (case nd => assumption); (case nf => k_extra "m nocell")) | (refine Ne.symm ?_; refine' ne_cell ?na ?nb ?nc ?nd ?nf; (case na => k_asm); (case nb => k_mem); (case nc => k_mem); (case nd => assumption); (case nf => k_extra "m nocell")) | (refine neN ?_; (try dsimp only); omega))
  k_with "m ne1" => (first | exact ne1_nil | (refine' ne1_tup ?nt ?nu; (case nt => first | exact rfl | assumption); (case nu => k_extra "m ne1")) | (refine' ne1_cls ?n1 ?n2 ?n3 ?n4; (case n1 => k_extra "m cls"); (case n2 => k_extra "m cls"); (case n3 => decide); (case n4 => k_extra "m ne1")) | (refine' ne1_cell ?n1 ?n2 ?n4; (case n1 => assumption); (case n2 => k_extra "m nocell"); (case n4 => k_extra "m ne1")) | (refine' ne1_cons ?nv ?nw; (case nv => k_extra "m ne"); (case nw => k_extra "m ne1")))
  k_with "m off" => (first | exact off_nil | k_extra "m offop" | (refine' off_consT ?oc ?ob; (case oc => first | exact rfl | assumption); (case ob => k_extra "m off")) | (refine' off_cons ?oa ?ob; (case oa => k_extra "m ne1"); (case ob => k_extra "m off")))
  k_with "m use" => (
    (case hA => exact rfl); (case hf => exact rfl); (case hk => exact rfl); (case hh => exact rfl)
    (case B => k_asm); (case F => k_asm); (case X => k_asm); (case T => k_asm); (case N => k_asm)
    (case hd => exact Nat.le_of_ble_eq_true rfl); (case hu => exact Nat.le_of_ble_eq_true rfl)
    (case tk => k_extra "m take")
    (case off => k_extra "m off"))
  k_with "call ref" => (k_here; k_dflt (k_extra "m call"))
  k_with "compareOp NotIn str ref" => (k_here; k_dflt (refine' notin_tuple_strs ?k1 ?k2 ?_; (case k1 => exact tupK (by k_in) (by k_is)); (case k2 => kde_strs); k_whole))
  k_with "compareOp In str ref" => (k_here; k_dflt (refine' in_tuple_strs ?k1 ?k2 ?_; (case k1 => exact tupK (by k_in) (by k_is)); (case k2 => kde_strs); k_whole))
  k_with "setItem ref str" => (k_here; k_dflt (refine' setItem_K PyProof.V.same_str (strKind_is _ _ _ _) ?v ?F ?N ?U ?d ?f ?_ ?z; (case F => k_asm); (case N => k_asm); (case U => k_updF); (case d => k_asm); (case f => k_asm); (case z => exact line_of_lenLe (n := 5) (by assumption) (by decide)); (case v => k_flat)); intro h' o' F' N' hd' hf'; (try dsimp only at N'); (try k_sweep))
  k_with "compareOp Eq ref str" => (k_here; k_dflt (refine' eq_tup_str ?k1 ?k2 ?k3 ?_; (case k1 => k_asm); (case k2 => k_mem); (case k3 => exact Nat.le_of_ble_eq_true rfl); k_whole))
  k_with "CompSrc" => (k_here; k_dflt (k_extra "m src"))
  k_with "CompEnd" => (k_here; k_extra "m compend")
  k_with "call builtin:sorted" => (k_here; k_dflt (k_extra "m sorted"))
  k_with "compareOp NotEq str str" => (k_here; k_extra "m neq")
  k_with "compareOp Eq str str" => (k_here; k_extra "m eqs")
  k_with "call builtin:str.join" => (k_here; k_dflt (k_extra "m join"))
  k_with "eval Lambda" => (k_here; k_dflt (k_extra "m lam"))
  k_with "compareOp NotEq int int" => (k_here; k_dflt (k_extra "m neqi"))
  k_with "compareOp NotEq ref ref" => (k_here; k_dflt (k_extra "m neqt"))
  k_with "call builtin:len" => (k_here; k_dflt (k_extra "m len"))
  k_with "binaryOp Add ref ref" => (k_here; k_dflt (k_extra "m addl"))
  k_with "eval ListComp" => (k_here; k_extra "m comp")
  k_with "subscriptTail" => (k_here; k_dflt (k_extra "m item"))
  k_with "execs cons" => (k_here; k_extra "m stmt")
  trivial
def tst (S G : Str) (b : Bool) (i : Int) : Bool := ((!(Builtin.Str.occurrences G (Txt.item S i) 0 G.length 1).isEmpty) == b)
def runN (S G : Str) (b : Bool) : Nat → Int → Int
  | 0, i => i
  | n + 1, i => if tst S G b i = true then runN S G b n (i + 1) else i
def runE (S G : Str) (b : Bool) (i : Int) : Int := runN S G b (S.length - i).toNat i
theorem runE_go {S G : Str} {b : Bool} {i : Int} (h : i < S.length) (t : tst S G b i = true) : runE S G b i = runE S G b (i + 1) := by
  unfold runE
  obtain ⟨n, e⟩ : ∃ n, ((S.length : Int) - i).toNat = n + 1 := ⟨((S.length : Int) - (i + 1)).toNat, by omega⟩
  rw [e, show ((S.length : Int) - (i + 1)).toNat = n by omega]
  show (if tst S G b i = true then _ else i) = _
  rw [if_pos t]
theorem runE_stop {S G : Str} {b : Bool} {i : Int} (t : tst S G b i = false) : runE S G b i = i := by
  unfold runE
  cases ((S.length : Int) - i).toNat with
  | zero => rfl
  | succ n => show (if tst S G b i = true then _ else i) = _; rw [if_neg (by rw [t]; exact Bool.false_ne_true)]
theorem runE_out {S G : Str} {b : Bool} {i : Int} (h : ¬ i < S.length) : runE S G b i = i := by
  unfold runE
  rw [show ((S.length : Int) - i).toNat = 0 by omega]
  rfl
theorem runN_le {S G : Str} {b : Bool} : ∀ (n : Nat) (i : Int), i ≤ runN S G b n i ∧ runN S G b n i ≤ i + n
  | 0, i => ⟨Int.le_refl _, by show i ≤ i + (0 : Nat); omega⟩
  | n + 1, i => by
    unfold runN
    split
    · have := runN_le (S := S) (G := G) (b := b) n (i + 1); omega
    · omega
theorem runE_le {S G : Str} {b : Bool} {i : Int} (h : i ≤ S.length) : i ≤ runE S G b i ∧ runE S G b i ≤ S.length := by
  have := runN_le (S := S) (G := G) (b := b) ((S.length : Int) - i).toNat i
  unfold runE
  omega
theorem run_end_spec {w : World} {lo : List Str} {mean mg mb} {S : Str} {ts : Tok} {at0 : Int} {ta : Tok} {G : Str} {tg : Tok} {b : Bool} (h3 : S.length < 1000) (h4 : G.length < 1000) (h0 : 0 ≤ at0) (h1 : at0 ≤ S.length) :
    Spec w lo mean mg mb 600 2000 303 [.str S ts, .int at0 ta, .str G tg, .bool b] [] (fun r post => ∃ t, r = .int (runE S G b at0) t ∧ post = []) := by
  intro gd frs base g s Q E B X T st sz N hret
  refine' enterS [(Str.ofString "subject", .str S ts), (Str.ofString "at", .int at0 ta), (Str.ofString "signs", .str G tg), (Str.ofString "is_in", .bool b)] ?k1 ?k2 ?k3 ?k4 ?k5 ?k6 ?k7 ?hb ?hs ?k8 ?k9 ?k10 ?k11 ?_ ?c1 ?c2 ?c3 ?c4
  k_extra "m enter"
  k_with "exec While BoolOp cons nil" => (
    (rename Fr _ _ _ _ => lF'); (rename News _ _ _ _ => lN')
    (with_unfolding_all refine' ksw_while (σ := Int × Tok) (fun _ => []) (fun c => [(Str.ofString "at", .int c.1 c.2)]) (fun _ => True) [] (fun c => 0 ≤ c.1 ∧ c.1 ≤ S.length ∧ runE S G b c.1 = runE S G b at0) (fun c => (S.length - c.1).toNat) (at0, ta) lF' ?kn ?kf ?kk ?kp ?_)
    (case kn => exact lN'); (case kf => exact trivial); (case kk => kst_all); (case kp => exact ⟨h0, h1, rfl⟩); clear lF' lN'
    rintro ⟨i, ti⟩ u h tk _ ⟨hP1, hP2, hP3⟩ F N'
    (try dsimp only at *)
    (try k_fold))
  k_steps
  · have ht : tst S G b i = true := by assumption
    refine ksw_end (i + 1, _) (by assumption) (by assumption) (by kst_in) trivial (by kst_all) (by k_extra "m same") ⟨by omega, by omega, (runE_go (by assumption) ht).symm.trans hP3⟩ (by dsimp only; omega)
  · have ht : tst S G b i = false := by assumption
    k_extra "m end"
    (case e3 => exact ⟨_, by rw [← hP3, runE_stop ht], rfl⟩)
    (case e2 => k_extra "m out")
  · k_extra "m end"
    (case e3 => exact ⟨_, by rw [← hP3, runE_out (by assumption)], rfl⟩)
    (case e2 => k_extra "m out")
end

section
theorem regMB4 : (fun (_ : OpenLaw) (_ : Params → Frag) => True) PySem.Challenge.rw_sj0197_01 KF := by
  k_with_none
  k_with "m enter" => (
    (case k1 => exact B); (case k2 => exact X); (case k3 => exact T); (case k4 => exact st); (case k5 => exact sz); (case k6 => exact N)
    (case k7 => k_dflt k_is)
    (case hb => (conv => lhs; whnf))
    (case hs => (conv => lhs; whnf))
    (case k8 => k_dflt k_is)
    (case k9 => decide)
    (case k10 => exact BindsTo.of_eq rfl)
    (case k11 => exact locs rfl)
    (case c1 => exact rfl); (case c2 => exact rfl); (case c3 => exact rfl); (case c4 => decide)
    clear st sz N
    intro L h F N'
    (try dsimp only)
    (try k_fold))
  k_with "m end" => ((try k_unfold); (try dsimp only); refine' hret _ _ _ ?e1 ?e2 ?e3 ?e4; (case e1 => exact Fr.keep (by k_asm)); (case e4 => k_extra "m kept"))
  k_with "m kept" => (first | exact kept_nil | (refine' kept_tup ?ka ?kb ?kc; (case ka => k_asm); (case kb => k_mem); (case kc => k_extra "m kept")) | (refine' kept_not ?kd ?ke ?kf; (case kd => k_extra "m cls"); (case ke => decide); (case kf => k_extra "m kept")))
  k_with "m sub" => (first | exact subNil | exact subRefl | (refine' subStep ?su; (case su => k_extra "m sub")) | (refine' subUpS ?sk ?su; (case sk => ((fail_if_success (refine skipOf ?_; k_mem)); exact trivial)); (case su => k_extra "m sub")) | (refine' subCons ?sa ?sb; (case sa => k_mem); (case sb => k_extra "m sub")))
  k_with "m same" => (
    intro z h2 h3
    simp only [List.forall_mem_cons, List.not_mem_nil, false_implies, implies_true, and_true, ne_eq] at h2
    simp [kstB, h2])
  k_with "m same2" => (
    intro z h2 h3
    dsimp only [isPs, psOf] at h2
    simp only [List.forall_mem_cons, List.not_mem_nil, false_implies, implies_true, and_true, ne_eq] at h2
    simp only [List.contains_cons, List.contains_nil, Bool.or_false, Bool.or_eq_false_iff, beq_eq_false_iff_ne, ne_eq] at h3
    simp [kstB, h2, h3])
  k_with "m same3" => (
    intro z h2 h3
    simp only [List.forall_mem_cons, List.not_mem_nil, false_implies, implies_true, and_true, ne_eq] at h2
    simp only [List.contains_cons, List.contains_nil, Bool.or_false, beq_eq_false_iff_ne, ne_eq] at h3
    simp [kstB, h2, h3])
  k_with "m same4" => (
    intro z h2 h3
    simp only [List.forall_mem_cons, List.not_mem_nil, false_implies, implies_true, and_true, ne_eq] at h2
    simp only [List.contains_cons, List.contains_nil, Bool.or_false, Bool.or_eq_false_iff, beq_eq_false_iff_ne, ne_eq] at h3
    simp [kstB, h2, h3])
  k_with "m led" => (dsimp only [isLed, osLed, fxL, vD, hD, List.cons_append, List.nil_append]; k_extra "m sub")
  k_with "m ps" => (dsimp only [isPs, psOf]; kst_all)
  k_with "m all" => exact newsOut (by k_asm)
  k_with "m outA" => exact newsSub (by k_asm) (subApp (by k_extra "m sub"))
  k_with "m out" => exact newsSub (by k_asm) (by k_extra "m sub")
  k_with "m t1" => (first | with_reducible exact Take1.head | (refine' Take1.tail ?mt; (case mt => k_extra "m t1")))
  k_with "m take" => (first | exact TakeL.nil | (refine' TakeL.cons ?ma ?mb; (case ma => k_extra "m t1"); (case mb => k_extra "m take")))
  k_with "m cls" => (first | assumption | exact dict_cls (by assumption) | (conv => lhs; whnf))
  k_with "m nocell" => exact rfl
  k_with "m ne" => (first | assumption | (refine Ne.symm ?_; assumption) | (refine' ne_cls ?na ?nb ?nc ?nd ?nf ?ng; (case na => k_asm); (case nb => k_mem); (case nc => k_mem); (case nd => k_extra "m cls"); (case nf => k_extra "m cls"); (case ng => decide)) | (refine' ne_cell ?na ?nb ?nc ?nd ?nf; (case na => k_asm); (case nb => k_mem); (case nc => k_mem); (case nd => assumption); (case nf => k_extra "m nocell")) | (refine Ne.symm ?_; refine' ne_cell ?na ?nb ?nc ?nd ?nf; (case na => k_asm); (case nb => k_mem); (case nc => k_mem); (case nd => assumption); (case nf => k_extra "m nocell")) | (refine neN ?_; (try dsimp only); omega))
  k_with "m ne1" => (first | exact ne1_nil | (refine' ne1_tup ?nt ?nu; (case nt => first | exact rfl | assumption); (case nu => k_extra "m ne1")) | (refine' ne1_cls ?n1 ?n2 ?n3 ?n4; (case n1 => k_extra "m cls"); (case n2 => k_extra "m cls"); (case n3 => decide); (case n4 => k_extra "m ne1")) | (refine' ne1_cell ?n1 ?n2 ?n4; (case n1 => assumption); (case n2 => k_extra "m nocell"); (case n4 => k_extra "m ne1")) | (refine' ne1_cons ?nv ?nw; (case nv => k_extra "m ne"); (case nw => k_extra "m ne1")))
  k_with "m off" => (first | exact off_nil | k_extra "m offop" | (refine' off_consT ?oc ?ob; (case oc => first | exact rfl | assumption); (case ob => k_extra "m off")) | (refine' off_cons ?oa ?ob; (case oa => k_extra "m ne1"); (case ob => k_extra "m off")))
  k_with "m use" => (
    (case hA => exact rfl); (case hf => exact rfl); (case hk => exact rfl); (case hh => exact rfl)
    (case B => k_asm); (case F => k_asm); (case X => k_asm); (case T => k_asm); (case N => k_asm)
    (case hd => exact Nat.le_of_ble_eq_true rfl); (case hu => exact Nat.le_of_ble_eq_true rfl)
    (case tk => k_extra "m take")
    (case off => k_extra "m off"))
  k_with "call ref" => (k_here; k_dflt (k_extra "m call"))
  k_with "compareOp NotIn str ref" => (k_here; k_dflt (refine' notin_tuple_strs ?k1 ?k2 ?_; (case k1 => exact tupK (by k_in) (by k_is)); (case k2 => kde_strs); k_whole))
  k_with "compareOp In str ref" => (k_here; k_dflt (refine' in_tuple_strs ?k1 ?k2 ?_; (case k1 => exact tupK (by k_in) (by k_is)); (case k2 => kde_strs); k_whole))
  k_with "setItem ref str" => (k_here; k_dflt (refine' setItem_K PyProof.V.same_str (strKind_is _ _ _ _) ?v ?F ?N ?U ?d ?f ?_ ?z; (case F => k_asm); (case N => k_asm); (case U => k_updF); (case d => k_asm); (case f => k_asm); (case z => exact line_of_lenLe (n := 5) (by assumption) (by decide)); (case v => k_flat)); intro h' o' F' N' hd' hf'; (try dsimp only at N'); (try k_sweep))
  k_with "compareOp Eq ref str" => (k_here; k_dflt (refine' eq_tup_str ?k1 ?k2 ?k3 ?_; (case k1 => k_asm); (case k2 => k_mem); (case k3 => exact Nat.le_of_ble_eq_true rfl); k_whole))
  k_with "CompSrc" => (k_here; k_dflt (k_extra "m src"))
  k_with "CompEnd" => (k_here; k_extra "m compend")
  k_with "call builtin:sorted" => (k_here; k_dflt (k_extra "m sorted"))
  k_with "compareOp NotEq str str" => (k_here; k_extra "m neq")
  k_with "compareOp Eq str str" => (k_here; k_extra "m eqs")
  k_with "call builtin:str.join" => (k_here; k_dflt (k_extra "m join"))
  k_with "eval Lambda" => (k_here; k_dflt (k_extra "m lam"))
  k_with "compareOp NotEq int int" => (k_here; k_dflt (k_extra "m neqi"))
  k_with "compareOp NotEq ref ref" => (k_here; k_dflt (k_extra "m neqt"))
  k_with "call builtin:len" => (k_here; k_dflt (k_extra "m len"))
  k_with "binaryOp Add ref ref" => (k_here; k_dflt (k_extra "m addl"))
  k_with "eval ListComp" => (k_here; k_extra "m comp")
  k_with "subscriptTail" => (k_here; k_dflt (k_extra "m item"))
  k_with "execs cons" => (k_here; k_extra "m stmt")
  trivial
inductive Leaf where
  | len (n : Int)
  | span (G : Str)
  | brk (G : Str)
  | chars (G : Str)
  | rem
  | arb
def Leaf.ok : Leaf → Prop
  | .len n => 0 ≤ n ∧ n < 1000
  | .span G | .brk G | .chars G => 1 ≤ G.length ∧ G.length < 10
  | .rem | .arb => True
def LeafObj (o : Obj) : Leaf → Prop
  | .len n => ∃ t1 t2, o = tup [.str (Str.ofString "len") t1, .int n t2]
  | .span G => ∃ t1 t2, o = tup [.str (Str.ofString "span") t1, .str G t2]
  | .brk G => ∃ t1 t2, o = tup [.str (Str.ofString "break") t1, .str G t2]
  | .chars G => ∃ t1 t2, o = tup [.str (Str.ofString "chars") t1, .str G t2]
  | .rem => ∃ t1, o = tup [.str (Str.ofString "rem") t1]
  | .arb => ∃ t1, o = tup [.str (Str.ofString "arb") t1]
def leafEnd (S : Str) (i : Int) : Leaf → Option Int
  | .len n => if i + n ≤ S.length then some (i + n) else none
  | .span G => if i < runE S G true i then some (runE S G true i) else none
  | .brk G => if runE S G false i < S.length then some (runE S G false i) else none
  | .chars G => if (Txt.slice S (some i) (some (i + G.length)) == G) = true then some (i + G.length) else none
  | .rem => some S.length
  | .arb => some i
theorem nt {b : Bool} (h : b = false) : ¬ b = true := by rw [h]; exact Bool.false_ne_true
def OptV (e : Option Int) (r : Value) : Prop := match e with
  | some e => ∃ t, r = .int e t
  | none => r = .none
theorem optv_some {e : Option Int} {i : Int} {t : Tok} (h : e = some i) : OptV e (.int i t) := by subst h; exact ⟨t, rfl⟩
theorem optv_none {e : Option Int} (h : e = none) : OptV e .none := by subst h; exact rfl
theorem optv_cases {e : Option Int} {r : Value} (h : OptV e r) : (∃ i t, e = some i ∧ r = .int i t) ∨ (e = none ∧ r = .none) := by
  cases e with
  | none => exact .inr ⟨rfl, h⟩
  | some i => obtain ⟨t, h⟩ := h; exact .inl ⟨i, t, rfl, h⟩
theorem ite_cases {c : Prop} [Decidable c] {e : Int} {r : Value} (h : if c then ∃ t, r = .int e t else r = .none) : (∃ t, c ∧ r = .int e t) ∨ (¬ c ∧ r = .none) := by
  split at h
  · rename_i q; obtain ⟨t, h⟩ := h; exact .inl ⟨t, q, h⟩
  · rename_i q; exact .inr ⟨q, h⟩
def TakenPost (rest : Value) (na ha : Addr) (o : Obj) (e : Option Int) (r : Value) (post : Led) : Prop := match e with
  | some e => ∃ ra t, r = .ref ra ∧ post = [(ra, tup [rest, .int e t, .ref na]), (ha, o)]
  | none => r = .none ∧ post = [(ha, o)]
theorem tp_some {rest : Value} {na ha ra : Addr} {o : Obj} {e : Option Int} {i : Int} {t : Tok} (h : e = some i) : TakenPost rest na ha o e (.ref ra) [(ra, tup [rest, .int i t, .ref na]), (ha, o)] := by
  subst h
  exact ⟨ra, t, rfl, rfl⟩
theorem tp_none {rest : Value} {na ha : Addr} {o : Obj} {e : Option Int} (h : e = none) : TakenPost rest na ha o e .none [(ha, o)] := by
  subst h
  exact ⟨rfl, rfl⟩
theorem span_end_spec {w : World} {lo : List Str} {mean mg mb} {S : Str} {ts : Tok} {i : Int} {ti : Tok} {G : Str} {tg : Tok} (h3 : S.length < 200) (h0 : 0 ≤ i) (h1 : i ≤ S.length) (h4 : G.length < 10) :
    Spec w lo mean mg mb 590 1900 310 [.str S ts, .int i ti, .str G tg] [] (fun r post => (if i < runE S G true i then ∃ t, r = .int (runE S G true i) t else r = .none) ∧ post = []) := by
  intro gd frs base g s Q E B X T st sz N hret
  k_with "m call" => (
    refine' use_spec ?B ?F ?X ?T ?N ?hA ?hf ?hk ?hh ?hd ?hu (run_end_spec ?p1 ?p2 ?p3 ?p4) ?tk ?off ?_
    k_extra "m use"
    (case p1 => omega); (case p2 => omega); (case p3 => omega); (case p4 => omega)
    k_whole
    rintro _ h' tk' _ F' N' ⟨t1, rfl, rfl⟩ _
    (try dsimp only [List.cons_append, List.nil_append] at N')
    (try dsimp only)
    (try k_fold))
  refine' enterS [(Str.ofString "subject", .str S ts), (Str.ofString "at", .int i ti), (Str.ofString "signs", .str G tg)] ?k1 ?k2 ?k3 ?k4 ?k5 ?k6 ?k7 ?hb ?hs ?k8 ?k9 ?k10 ?k11 ?_ ?c1 ?c2 ?c3 ?c4
  k_extra "m enter"
  k_steps
  · k_extra "m end"
    (case e3 => exact ⟨by rw [if_pos (by assumption)]; exact ⟨_, rfl⟩, rfl⟩)
    (case e2 => k_extra "m all")
  · k_extra "m end"
    (case e3 => exact ⟨by rw [if_neg (by assumption)], rfl⟩)
    (case e2 => k_extra "m all")
theorem break_end_spec {w : World} {lo : List Str} {mean mg mb} {S : Str} {ts : Tok} {i : Int} {ti : Tok} {G : Str} {tg : Tok} (h3 : S.length < 200) (h0 : 0 ≤ i) (h1 : i ≤ S.length) (h4 : G.length < 10) :
    Spec w lo mean mg mb 590 1900 317 [.str S ts, .int i ti, .str G tg] [] (fun r post => (if runE S G false i < S.length then ∃ t, r = .int (runE S G false i) t else r = .none) ∧ post = []) := by
  intro gd frs base g s Q E B X T st sz N hret
  k_with "m call" => (
    refine' use_spec ?B ?F ?X ?T ?N ?hA ?hf ?hk ?hh ?hd ?hu (run_end_spec ?p1 ?p2 ?p3 ?p4) ?tk ?off ?_
    k_extra "m use"
    (case p1 => omega); (case p2 => omega); (case p3 => omega); (case p4 => omega)
    k_whole
    rintro _ h' tk' _ F' N' ⟨t1, rfl, rfl⟩ _
    (try dsimp only [List.cons_append, List.nil_append] at N')
    (try dsimp only)
    (try k_fold))
  refine' enterS [(Str.ofString "subject", .str S ts), (Str.ofString "at", .int i ti), (Str.ofString "signs", .str G tg)] ?k1 ?k2 ?k3 ?k4 ?k5 ?k6 ?k7 ?hb ?hs ?k8 ?k9 ?k10 ?k11 ?_ ?c1 ?c2 ?c3 ?c4
  k_extra "m enter"
  k_steps
  · k_extra "m end"
    (case e3 => exact ⟨by rw [if_pos (by assumption)]; exact ⟨_, rfl⟩, rfl⟩)
    (case e2 => k_extra "m all")
  · k_extra "m end"
    (case e3 => exact ⟨by rw [if_neg (by assumption)], rfl⟩)
    (case e2 => k_extra "m all")
theorem plain_leaf {w : World} {lo : List Str} {mean mg mb} {S : Str} {ts : Tok} {i : Int} {ti : Tok} {ha : Addr} {o : Obj} {lf : Leaf} (hl : LeafObj o lf) (h2 : lf ≠ .arb) (h3 : S.length < 200) (h0 : 0 ≤ i) (h1 : i ≤ S.length) (hk : lf.ok) :
    Spec w lo mean mg mb 570 1700 345 [.ref ha, .str S ts, .int i ti] [(ha, o)] (fun r post => OptV (leafEnd S i lf) r ∧ post = [(ha, o)]) := by
  intro gd frs base g s Q E B X T st sz N hret
  k_with "m call" => (
    refine' use_spec ?B ?F ?X ?T ?N ?hA ?hf ?hk ?hh ?hd ?hu (span_end_spec ?p1 ?p2 ?p3 ?p4) ?tk ?off ?_
    k_extra "m use"
    (case p1 => omega); (case p2 => omega); (case p3 => omega); (case p4 => omega)
    k_whole
    rintro r' h' tk' _ F' N' ⟨hr, rfl⟩ _
    rcases ite_cases hr with ⟨t1, hc, rfl⟩ | ⟨hc, rfl⟩
    all_goals (
      (try dsimp only [List.cons_append, List.nil_append] at N')
      (try dsimp only)
      (try k_fold)))
  k_with "m call" => (
    refine' use_spec ?B ?F ?X ?T ?N ?hA ?hf ?hk ?hh ?hd ?hu (break_end_spec ?p1 ?p2 ?p3 ?p4) ?tk ?off ?_
    k_extra "m use"
    (case p1 => omega); (case p2 => omega); (case p3 => omega); (case p4 => omega)
    k_whole
    rintro r' h' tk' _ F' N' ⟨hr, rfl⟩ _
    rcases ite_cases hr with ⟨t1, hc, rfl⟩ | ⟨hc, rfl⟩
    all_goals (
      (try dsimp only [List.cons_append, List.nil_append] at N')
      (try dsimp only)
      (try k_fold)))
  cases lf
  case arb => exact absurd rfl h2
  all_goals (
    first | obtain ⟨hk1, hk2⟩ := hk | skip
    first | obtain ⟨t1, t2, rfl⟩ := hl | obtain ⟨t1, rfl⟩ := hl
    clear h2
    refine' enterS [(Str.ofString "node", .ref ha), (Str.ofString "subject", .str S ts), (Str.ofString "at", .int i ti)] ?k1 ?k2 ?k3 ?k4 ?k5 ?k6 ?k7 ?hb ?hs ?k8 ?k9 ?k10 ?k11 ?_ ?c1 ?c2 ?c3 ?c4
    k_extra "m enter"
    k_steps)
  all_goals (k_extra "m end"; (case e2 => k_extra "m all"); (case e3 => first | exact ⟨optv_some rfl, rfl⟩ | exact ⟨optv_some (if_pos (by assumption)), rfl⟩ | exact ⟨optv_none (if_neg (by assumption)), rfl⟩ | exact ⟨optv_none (if_neg (nt (by assumption))), rfl⟩))
theorem settled_leaf {w : World} {lo : List Str} {mean mg mb} {ha hs : Addr} {o : Obj} {lf : Leaf} (hl : LeafObj o lf) (h2 : lf ≠ .arb) :
    Spec w lo mean mg mb 570 1700 390 [.ref ha, .ref hs] [(ha, o)] (fun r post => r = .ref ha ∧ post = [(ha, o)]) := by
  intro gd frs base g s Q E B X T st sz N hret
  cases lf
  case arb => exact absurd rfl h2
  all_goals (
    first | obtain ⟨t1, t2, rfl⟩ := hl | obtain ⟨t1, rfl⟩ := hl
    clear h2
    refine' enterS [(Str.ofString "node", .ref ha), (Str.ofString "host", .ref hs)] ?k1 ?k2 ?k3 ?k4 ?k5 ?k6 ?k7 ?hb ?hs ?k8 ?k9 ?k10 ?k11 ?_ ?c1 ?c2 ?c3 ?c4
    k_extra "m enter"
    k_steps)
  all_goals (k_extra "m end"; (case e2 => k_extra "m all"); (case e3 => exact ⟨rfl, rfl⟩))
end

section
theorem regMBl : (fun (_ : OpenLaw) (_ : Params → Frag) => True) PySem.Challenge.rw_sj0197_01 KF := by
  k_with_none
  k_with "m enter" => (
    (case k1 => exact B); (case k2 => exact X); (case k3 => exact T); (case k4 => exact st); (case k5 => exact sz); (case k6 => exact N)
    (case k7 => k_dflt k_is)
    (case hb => (conv => lhs; whnf))
    (case hs => (conv => lhs; whnf))
    (case k8 => k_dflt k_is)
    (case k9 => decide)
    (case k10 => exact BindsTo.of_eq rfl)
    (case k11 => exact locs rfl)
    (case c1 => exact rfl); (case c2 => exact rfl); (case c3 => exact rfl); (case c4 => decide)
    clear st sz N
    intro L h F N'
    (try dsimp only)
    (try k_fold))
  k_with "m end" => ((try k_unfold); (try dsimp only); refine' hret _ _ _ ?e1 ?e2 ?e3 ?e4; (case e1 => exact Fr.keep (by k_asm)); (case e4 => k_extra "m kept"))
  k_with "m kept" => (first | exact kept_nil | (refine' kept_tup ?ka ?kb ?kc; (case ka => k_asm); (case kb => k_mem); (case kc => k_extra "m kept")) | (refine' kept_not ?kd ?ke ?kf; (case kd => k_extra "m cls"); (case ke => decide); (case kf => k_extra "m kept")))
  k_with "m sub" => (first | exact subNil | exact subRefl | (refine' subStep ?su; (case su => k_extra "m sub")) | (refine' subUpS ?sk ?su; (case sk => ((fail_if_success (refine skipOf ?_; k_mem)); exact trivial)); (case su => k_extra "m sub")) | (refine' subCons ?sa ?sb; (case sa => k_mem); (case sb => k_extra "m sub")))
  k_with "m same" => (
    intro z h2 h3
    simp only [List.forall_mem_cons, List.not_mem_nil, false_implies, implies_true, and_true, ne_eq] at h2
    simp [kstB, h2])
  k_with "m same2" => (
    intro z h2 h3
    dsimp only [isPs, psOf] at h2
    simp only [List.forall_mem_cons, List.not_mem_nil, false_implies, implies_true, and_true, ne_eq] at h2
    simp only [List.contains_cons, List.contains_nil, Bool.or_false, Bool.or_eq_false_iff, beq_eq_false_iff_ne, ne_eq] at h3
    simp [kstB, h2, h3])
  k_with "m same3" => (
    intro z h2 h3
    simp only [List.forall_mem_cons, List.not_mem_nil, false_implies, implies_true, and_true, ne_eq] at h2
    simp only [List.contains_cons, List.contains_nil, Bool.or_false, beq_eq_false_iff_ne, ne_eq] at h3
    simp [kstB, h2, h3])
  k_with "m same4" => (
    intro z h2 h3
    simp only [List.forall_mem_cons, List.not_mem_nil, false_implies, implies_true, and_true, ne_eq] at h2
    simp only [List.contains_cons, List.contains_nil, Bool.or_false, Bool.or_eq_false_iff, beq_eq_false_iff_ne, ne_eq] at h3
    simp [kstB, h2, h3])
  k_with "m led" => (dsimp only [isLed, osLed, fxL, vD, hD, List.cons_append, List.nil_append]; k_extra "m sub")
  k_with "m ps" => (dsimp only [isPs, psOf]; kst_all)
  k_with "m all" => exact newsOut (by k_asm)
  k_with "m outA" => exact newsSub (by k_asm) (subApp (by k_extra "m sub"))
  k_with "m out" => exact newsSub (by k_asm) (by k_extra "m sub")
  k_with "m t1" => (first | with_reducible exact Take1.head | (refine' Take1.tail ?mt; (case mt => k_extra "m t1")))
  k_with "m take" => (first | exact TakeL.nil | (refine' TakeL.cons ?ma ?mb; (case ma => k_extra "m t1"); (case mb => k_extra "m take")))
  k_with "m cls" => (first | assumption | exact dict_cls (by assumption) | (conv => lhs; whnf))
  k_with "m nocell" => exact rfl
  k_with "m ne" => (first | assumption | (refine Ne.symm ?_; assumption) | (refine' ne_cls ?na ?nb ?nc ?nd ?nf ?ng; (case na => k_asm); (case nb => k_mem); (case nc => k_mem); (case nd => k_extra "m cls"); (case nf => k_extra "m cls"); (case ng => decide)) | (refine' ne_cell ?na ?nb ?nc ?nd ?nf; (case na => k_asm); (case nb => k_mem); (case nc => k_mem); (case nd => assumption); (case nf => k_extra "m nocell")) | (refine Ne.symm ?_; refine' ne_cell ?na ?nb ?nc ?nd ?nf; (case na => k_asm); (case nb => k_mem); (case nc => k_mem); (case nd => assumption); (case nf => k_extra "m nocell")) | (refine neN ?_; (try dsimp only); omega))
  k_with "m ne1" => (first | exact ne1_nil | (refine' ne1_tup ?nt ?nu; (case nt => first | exact rfl | assumption); (case nu => k_extra "m ne1")) | (refine' ne1_cls ?n1 ?n2 ?n3 ?n4; (case n1 => k_extra "m cls"); (case n2 => k_extra "m cls"); (case n3 => decide); (case n4 => k_extra "m ne1")) | (refine' ne1_cell ?n1 ?n2 ?n4; (case n1 => assumption); (case n2 => k_extra "m nocell"); (case n4 => k_extra "m ne1")) | (refine' ne1_cons ?nv ?nw; (case nv => k_extra "m ne"); (case nw => k_extra "m ne1")))
  k_with "m off" => (first | exact off_nil | k_extra "m offop" | (refine' off_consT ?oc ?ob; (case oc => first | exact rfl | assumption); (case ob => k_extra "m off")) | (refine' off_cons ?oa ?ob; (case oa => k_extra "m ne1"); (case ob => k_extra "m off")))
  k_with "m use" => (
    (case hA => exact rfl); (case hf => exact rfl); (case hk => exact rfl); (case hh => exact rfl)
    (case B => k_asm); (case F => k_asm); (case X => k_asm); (case T => k_asm); (case N => k_asm)
    (case hd => exact Nat.le_of_ble_eq_true rfl); (case hu => exact Nat.le_of_ble_eq_true rfl)
    (case tk => k_extra "m take")
    (case off => k_extra "m off"))
  k_with "call ref" => (k_here; k_dflt (k_extra "m call"))
  k_with "compareOp NotIn str ref" => (k_here; k_dflt (refine' notin_tuple_strs ?k1 ?k2 ?_; (case k1 => exact tupK (by k_in) (by k_is)); (case k2 => kde_strs); k_whole))
  k_with "compareOp In str ref" => (k_here; k_dflt (refine' in_tuple_strs ?k1 ?k2 ?_; (case k1 => exact tupK (by k_in) (by k_is)); (case k2 => kde_strs); k_whole))
  k_with "setItem ref str" => (k_here; k_dflt (refine' setItem_K PyProof.V.same_str (strKind_is _ _ _ _) ?v ?F ?N ?U ?d ?f ?_ ?z; (case F => k_asm); (case N => k_asm); (case U => k_updF); (case d => k_asm); (case f => k_asm); (case z => exact line_of_lenLe (n := 5) (by assumption) (by decide)); (case v => k_flat)); intro h' o' F' N' hd' hf'; (try dsimp only at N'); (try k_sweep))
  k_with "compareOp Eq ref str" => (k_here; k_dflt (refine' eq_tup_str ?k1 ?k2 ?k3 ?_; (case k1 => k_asm); (case k2 => k_mem); (case k3 => exact Nat.le_of_ble_eq_true rfl); k_whole))
  k_with "CompSrc" => (k_here; k_dflt (k_extra "m src"))
  k_with "CompEnd" => (k_here; k_extra "m compend")
  k_with "call builtin:sorted" => (k_here; k_dflt (k_extra "m sorted"))
  k_with "compareOp NotEq str str" => (k_here; k_extra "m neq")
  k_with "compareOp Eq str str" => (k_here; k_extra "m eqs")
  k_with "call builtin:str.join" => (k_here; k_dflt (k_extra "m join"))
  k_with "eval Lambda" => (k_here; k_dflt (k_extra "m lam"))
  k_with "compareOp NotEq int int" => (k_here; k_dflt (k_extra "m neqi"))
  k_with "compareOp NotEq ref ref" => (k_here; k_dflt (k_extra "m neqt"))
  k_with "call builtin:len" => (k_here; k_dflt (k_extra "m len"))
  k_with "binaryOp Add ref ref" => (k_here; k_dflt (k_extra "m addl"))
  k_with "eval ListComp" => (k_here; k_extra "m comp")
  k_with "subscriptTail" => (k_here; k_dflt (k_extra "m item"))
  k_with "execs cons" => (k_here; k_extra "m stmt")
  trivial
theorem list_item {prog : Program} {w : World} {A : Around} {E : Value → Shared → Prop} {s : Shared} {h₀ : Heap} {L a : Addr} {news : Led} {value slice : PySem.Expr} {vs : List Value} {n : Nat} {i : Int} {u : Tok} {v : Value} {Q : Value → Shared → Prop} (N : News h₀ L s.heap news) (hm : (a, listOf vs.toArray n) ∈ news)
    (h0 : 0 ≤ i) (h1 : i < 2 ^ 63) (hx : vs[i.toNat]? = some v) (h : Q v s) (hs : subscripted slice false (.ref a) (.int i u) = operate [.ref a, .int i u] (getItem (.ref a) (.int i u)) := by with_unfolding_all rfl) :
    wpAny (model prog w) A (subscriptTail value slice (.ref a) (.int i u)) Q E s :=
  have hl : s.heap.IsList a vs.toArray := ⟨_, (N _ hm).1, rfl, n, rfl⟩
  tail_any hl.typeIs slot_list_getitem.lookup (wpAny_getItem_list hl h0 h1 (by simpa using hx) h) hs
theorem menu_item {prog : Program} {w : World} {A : Around} {E : Value → Shared → Prop} {s : Shared} {h₀ : Heap} {L a : Addr} {news : Led} {value slice : PySem.Expr} {vs : List Value} {n : Nat} {i : Int} {u : Tok} {Q : Value → Shared → Prop} (P : Str → Prop) (N : News h₀ L s.heap news) (hm : (a, listOf vs.toArray n) ∈ news)
    (h0 : 0 ≤ i) (h1 : i < vs.length) (hl : vs.length < 100) (hv : ∀ v ∈ vs, ∃ X t, v = .str X t ∧ P X) (h : ∀ X t, P X → Q (.str X t) s) (hs : subscripted slice false (.ref a) (.int i u) = operate [.ref a, .int i u] (getItem (.ref a) (.int i u)) := by with_unfolding_all rfl) :
    wpAny (model prog w) A (subscriptTail value slice (.ref a) (.int i u)) Q E s := by
  have hlt : i.toNat < vs.length := by omega
  obtain ⟨X, t, e, p⟩ := hv _ (List.getElem_mem hlt)
  exact list_item N hm h0 (by omega) (by rw [List.getElem?_eq_getElem hlt, e]) (h X t p) hs
def IsKind (K : Str) : Prop := K = Str.ofString "len" ∨ K = Str.ofString "span" ∨ K = Str.ofString "break" ∨ K = Str.ofString "chars" ∨ K = Str.ofString "rem" ∨ K = Str.ofString "arb"
def IsTold (X : Str) : Prop := 1 ≤ X.length ∧ X.length < 10
theorem leaf_len {K : Str} {v : Int} {t u : Tok} (h : (K == Str.ofString "len") = true) (hv : 0 ≤ v ∧ v < 3) : ∃ lf, LeafObj (tup [.str K t, .int v u]) lf ∧ lf.ok := by
  rw [eq_of_beq h]
  exact ⟨.len v, ⟨_, _, rfl⟩, hv.1, Int.lt_trans hv.2 (by decide)⟩
theorem leaf_bare {K : Str} {t : Tok} (hk : IsKind K) (h : ([Str.ofString "rem", Str.ofString "arb"].any fun x => x == K) = true) : ∃ lf, LeafObj (tup [.str K t]) lf ∧ lf.ok := by
  simp only [List.any_cons, List.any_nil, Bool.or_false, Bool.or_eq_true, beq_iff_eq] at h
  rcases h with h | h
  · exact ⟨.rem, ⟨t, by rw [h]⟩, trivial⟩
  · exact ⟨.arb, ⟨t, by rw [h]⟩, trivial⟩
theorem leaf_told {K X : Str} {t u : Tok} (hk : IsKind K) (h1 : (K == Str.ofString "len") = false) (h2 : ([Str.ofString "rem", Str.ofString "arb"].any fun x => x == K) = false) (hX : IsTold X) : ∃ lf, LeafObj (tup [.str K t, .str X u]) lf ∧ lf.ok := by
  rcases hk with h | h | h | h | h | h
  · subst h; exact absurd h1 (by decide)
  · exact ⟨.span X, ⟨t, u, by rw [h]⟩, hX⟩
  · exact ⟨.brk X, ⟨t, u, by rw [h]⟩, hX⟩
  · exact ⟨.chars X, ⟨t, u, by rw [h]⟩, hX⟩
  · subst h; exact absurd h2 (by decide)
  · subst h; exact absurd h2 (by decide)
inductive LeafRes (bx la : Addr) (c : Int) : Value → Led → Prop
  | mk (ra : Addr) (o : Obj) (lf : Leaf) (tc' : Tok) (vs' : List Value) (xs' : List Int) (k' j' : Nat) (h1 : LeafObj o lf) (h2 : lf.ok) (h3 : o.cls = TUP) (hi : IntsAre vs' xs') (hx : vs'.length ≤ 60) : LeafRes bx la c (.ref ra) [(ra, o), (bx, listOf [Value.ref la, .int (c + 1 + 1) tc'].toArray k'), (la, listOf vs'.toArray j')]
theorem leaf_spec {w : World} {lo : List Str} {mean mg mb} {bx la : Addr} {vs : List Value} {xs : List Int} {c : Int} {tc : Tok} {k j : Nat} (hi : IntsAre vs xs) (hc : 0 ≤ c) (hc2 : c < 900) (hx : vs.length ≤ 60)
    (ne : @Ne Nat bx la) :
    Spec w lo mean mg mb 690 2400 453 [.ref bx]
      [(bx, listOf [Value.ref la, .int c tc].toArray k), (la, listOf vs.toArray j)]
      (LeafRes bx la c) := by
  intro gd frs base g s Q E B X T st sz N hret
  k_with "m call" => (
    refine' use_spec ?B ?F ?X ?T ?N ?hA ?hf ?hk ?hh ?hd ?hu (take_spec (W := 6) ?p0 ?p1 ?p2 ?p3 ?p4 ?p5 ?p6) ?tk ?off ?_
    k_extra "m use"
    (case p0 => assumption); (case p1 => decide); (case p2 => decide); (case p3 => omega); (case p4 => omega); (case p5 => assumption); (case p6 => assumption)
    k_whole
    rintro _ h' tk' _ F' N' ⟨v1, t1, tc1, vs1, xs1, k1, j1, hv1, hv2, hi1, hx1⟩ hO
    clear hO
    (try dsimp only [List.cons_append, List.nil_append] at N')
    (try dsimp only)
    (try k_fold))
  k_with "m call" => (
    refine' use_spec ?B ?F ?X ?T ?N ?hA ?hf ?hk ?hh ?hd ?hu (take_spec (W := 3) ?p0 ?p1 ?p2 ?p3 ?p4 ?p5 ?p6) ?tk ?off ?_
    k_extra "m use"
    (case p0 => assumption); (case p1 => decide); (case p2 => decide); (case p3 => omega); (case p4 => omega); (case p5 => assumption); (case p6 => assumption)
    k_whole
    rintro _ h' tk' _ F' N' ⟨v2, t2, tc2, vs2, xs2, k2, j2, hv3, hv4, hi2, hx2⟩ hO
    clear hO
    (try dsimp only [List.cons_append, List.nil_append] at N')
    (try dsimp only)
    (try k_fold))
  k_with "m item" => (refine' menu_item IsTold ?iN ?im ?i0 ?i1 ?il ?iv ?_; (case iN => k_asm); (case im => k_mem); (case i0 => assumption); (case i1 => (show v2 < 3; exact hv4)); (case il => exact Nat.le_of_ble_eq_true rfl); (case iv => exact allCons ⟨_, _, rfl, by decide, by decide⟩ (allCons ⟨_, _, rfl, by decide, by decide⟩ (allCons ⟨_, _, rfl, by decide, by decide⟩ allNil))); intro X9 t9 hX9)
  k_with "m item" => (refine' menu_item IsKind ?iN ?im ?i0 ?i1 ?il ?iv ?_; (case iN => k_asm); (case im => k_mem); (case i0 => assumption); (case i1 => (show v1 < 6; exact hv2)); (case il => exact Nat.le_of_ble_eq_true rfl); (case iv => exact allCons ⟨_, _, rfl, .inl rfl⟩ (allCons ⟨_, _, rfl, .inr (.inl rfl)⟩ (allCons ⟨_, _, rfl, .inr (.inr (.inl rfl))⟩ (allCons ⟨_, _, rfl, .inr (.inr (.inr (.inl rfl)))⟩ (allCons ⟨_, _, rfl, .inr (.inr (.inr (.inr (.inl rfl))))⟩ (allCons ⟨_, _, rfl, .inr (.inr (.inr (.inr (.inr rfl))))⟩ allNil)))))); intro K9 t8 hK9)
  k_with "m eqs" => (rcases hK9 with hK9 | hK9 | hK9 | hK9 | hK9 | hK9; all_goals (subst hK9; (try k_fold)))
  refine' enterS [(Str.ofString "box", .ref bx)] ?k1 ?k2 ?k3 ?k4 ?k5 ?k6 ?k7 ?hb ?hs ?k8 ?k9 ?k10 ?k11 ?_ ?c1 ?c2 ?c3 ?c4
  k_extra "m enter"
  k_steps
  all_goals (
    k_extra "m end"
    (case e2 => exact newsSub (post := [(_, _), (bx, _), (la, _)]) (by k_asm) (by k_extra "m sub"))
    (case e3 => first
      | (obtain ⟨lf, q1, q2⟩ := leaf_len (t := t8) (u := t2) (by assumption) ⟨hv3, hv4⟩; exact .mk _ _ lf tc2 vs2 xs2 k2 j2 q1 q2 rfl hi2 hx2)
      | (obtain ⟨lf, q1, q2⟩ := leaf_bare (t := t8) hK9 (by assumption); exact .mk _ _ lf tc2 vs2 xs2 k2 j2 q1 q2 rfl hi2 hx2)
      | (obtain ⟨lf, q1, q2⟩ := leaf_told (t := t8) (u := t9) hK9 (by assumption) (by assumption) hX9; exact .mk _ _ lf tc2 vs2 xs2 k2 j2 q1 q2 rfl hi2 hx2)))
end

section
theorem regMB5 : (fun (_ : OpenLaw) (_ : Params → Frag) => True) PySem.Challenge.rw_sj0197_01 KF := by
  k_with_none
  k_with "m enter" => (
    (case k1 => exact B); (case k2 => exact X); (case k3 => exact T); (case k4 => exact st); (case k5 => exact sz); (case k6 => exact N)
    (case k7 => k_dflt k_is)
    (case hb => (conv => lhs; whnf))
    (case hs => (conv => lhs; whnf))
    (case k8 => k_dflt k_is)
    (case k9 => decide)
    (case k10 => exact BindsTo.of_eq rfl)
    (case k11 => exact locs rfl)
    (case c1 => exact rfl); (case c2 => exact rfl); (case c3 => exact rfl); (case c4 => decide)
    clear st sz N
    intro L h F N'
    (try dsimp only)
    (try k_fold))
  k_with "m end" => ((try k_unfold); (try dsimp only); refine' hret _ _ _ ?e1 ?e2 ?e3 ?e4; (case e1 => exact Fr.keep (by k_asm)); (case e4 => k_extra "m kept"))
  k_with "m kept" => (first | exact kept_nil | (refine' kept_tup ?ka ?kb ?kc; (case ka => k_asm); (case kb => k_mem); (case kc => k_extra "m kept")) | (refine' kept_not ?kd ?ke ?kf; (case kd => k_extra "m cls"); (case ke => decide); (case kf => k_extra "m kept")))
  k_with "m sub" => (first | exact subNil | exact subRefl | (refine' subStep ?su; (case su => k_extra "m sub")) | (refine' subUpS ?sk ?su; (case sk => ((fail_if_success (refine skipOf ?_; k_mem)); exact trivial)); (case su => k_extra "m sub")) | (refine' subCons ?sa ?sb; (case sa => k_mem); (case sb => k_extra "m sub")))
  k_with "m same" => (
    intro z h2 h3
    simp only [List.forall_mem_cons, List.not_mem_nil, false_implies, implies_true, and_true, ne_eq] at h2
    simp [kstB, h2])
  k_with "m same2" => (
    intro z h2 h3
    dsimp only [isPs, psOf] at h2
    simp only [List.forall_mem_cons, List.not_mem_nil, false_implies, implies_true, and_true, ne_eq] at h2
    simp only [List.contains_cons, List.contains_nil, Bool.or_false, Bool.or_eq_false_iff, beq_eq_false_iff_ne, ne_eq] at h3
    simp [kstB, h2, h3])
  k_with "m same3" => (
    intro z h2 h3
    simp only [List.forall_mem_cons, List.not_mem_nil, false_implies, implies_true, and_true, ne_eq] at h2
    simp only [List.contains_cons, List.contains_nil, Bool.or_false, beq_eq_false_iff_ne, ne_eq] at h3
    simp [kstB, h2, h3])
  k_with "m same4" => (
    intro z h2 h3
    simp only [List.forall_mem_cons, List.not_mem_nil, false_implies, implies_true, and_true, ne_eq] at h2
    simp only [List.contains_cons, List.contains_nil, Bool.or_false, Bool.or_eq_false_iff, beq_eq_false_iff_ne, ne_eq] at h3
    simp [kstB, h2, h3])
  k_with "m led" => (dsimp only [isLed, osLed, fxL, vD, hD, List.cons_append, List.nil_append]; k_extra "m sub")
  k_with "m ps" => (dsimp only [isPs, psOf]; kst_all)
  k_with "m all" => exact newsOut (by k_asm)
  k_with "m outA" => exact newsSub (by k_asm) (subApp (by k_extra "m sub"))
  k_with "m out" => exact newsSub (by k_asm) (by k_extra "m sub")
  k_with "m t1" => (first | with_reducible exact Take1.head | (refine' Take1.tail ?mt; (case mt => k_extra "m t1")))
  k_with "m take" => (first | exact TakeL.nil | (refine' TakeL.cons ?ma ?mb; (case ma => k_extra "m t1"); (case mb => k_extra "m take")))
  k_with "m cls" => (first | assumption | exact dict_cls (by assumption) | (conv => lhs; whnf))
  k_with "m nocell" => exact rfl
  k_with "m ne" => (first | assumption | (refine Ne.symm ?_; assumption) | (refine' ne_cls ?na ?nb ?nc ?nd ?nf ?ng; (case na => k_asm); (case nb => k_mem); (case nc => k_mem); (case nd => k_extra "m cls"); (case nf => k_extra "m cls"); (case ng => decide)) | (refine' ne_cell ?na ?nb ?nc ?nd ?nf; (case na => k_asm); (case nb => k_mem); (case nc => k_mem); (case nd => assumption); (case nf => k_extra "m nocell")) | (refine Ne.symm ?_; refine' ne_cell ?na ?nb ?nc ?nd ?nf; (case na => k_asm); (case nb => k_mem); (case nc => k_mem); (case nd => assumption); (case nf => k_extra "m nocell")) | (refine neN ?_; (try dsimp only); omega))
  k_with "m ne1" => (first | exact ne1_nil | (refine' ne1_tup ?nt ?nu; (case nt => first | exact rfl | assumption); (case nu => k_extra "m ne1")) | (refine' ne1_cls ?n1 ?n2 ?n3 ?n4; (case n1 => k_extra "m cls"); (case n2 => k_extra "m cls"); (case n3 => decide); (case n4 => k_extra "m ne1")) | (refine' ne1_cell ?n1 ?n2 ?n4; (case n1 => assumption); (case n2 => k_extra "m nocell"); (case n4 => k_extra "m ne1")) | (refine' ne1_cons ?nv ?nw; (case nv => k_extra "m ne"); (case nw => k_extra "m ne1")))
  k_with "m off" => (first | exact off_nil | k_extra "m offop" | (refine' off_consT ?oc ?ob; (case oc => first | exact rfl | assumption); (case ob => k_extra "m off")) | (refine' off_cons ?oa ?ob; (case oa => k_extra "m ne1"); (case ob => k_extra "m off")))
  k_with "m use" => (
    (case hA => exact rfl); (case hf => exact rfl); (case hk => exact rfl); (case hh => exact rfl)
    (case B => k_asm); (case F => k_asm); (case X => k_asm); (case T => k_asm); (case N => k_asm)
    (case hd => exact Nat.le_of_ble_eq_true rfl); (case hu => exact Nat.le_of_ble_eq_true rfl)
    (case tk => k_extra "m take")
    (case off => k_extra "m off"))
  k_with "call ref" => (k_here; k_dflt (k_extra "m call"))
  k_with "compareOp NotIn str ref" => (k_here; k_dflt (refine' notin_tuple_strs ?k1 ?k2 ?_; (case k1 => exact tupK (by k_in) (by k_is)); (case k2 => kde_strs); k_whole))
  k_with "compareOp In str ref" => (k_here; k_dflt (refine' in_tuple_strs ?k1 ?k2 ?_; (case k1 => exact tupK (by k_in) (by k_is)); (case k2 => kde_strs); k_whole))
  k_with "setItem ref str" => (k_here; k_dflt (refine' setItem_K PyProof.V.same_str (strKind_is _ _ _ _) ?v ?F ?N ?U ?d ?f ?_ ?z; (case F => k_asm); (case N => k_asm); (case U => k_updF); (case d => k_asm); (case f => k_asm); (case z => exact line_of_lenLe (n := 5) (by assumption) (by decide)); (case v => k_flat)); intro h' o' F' N' hd' hf'; (try dsimp only at N'); (try k_sweep))
  k_with "compareOp Eq ref str" => (k_here; k_dflt (refine' eq_tup_str ?k1 ?k2 ?k3 ?_; (case k1 => k_asm); (case k2 => k_mem); (case k3 => exact Nat.le_of_ble_eq_true rfl); k_whole))
  k_with "CompSrc" => (k_here; k_dflt (k_extra "m src"))
  k_with "CompEnd" => (k_here; k_extra "m compend")
  k_with "call builtin:sorted" => (k_here; k_dflt (k_extra "m sorted"))
  k_with "compareOp NotEq str str" => (k_here; k_extra "m neq")
  k_with "compareOp Eq str str" => (k_here; k_extra "m eqs")
  k_with "call builtin:str.join" => (k_here; k_dflt (k_extra "m join"))
  k_with "eval Lambda" => (k_here; k_dflt (k_extra "m lam"))
  k_with "compareOp NotEq int int" => (k_here; k_dflt (k_extra "m neqi"))
  k_with "compareOp NotEq ref ref" => (k_here; k_dflt (k_extra "m neqt"))
  k_with "call builtin:len" => (k_here; k_dflt (k_extra "m len"))
  k_with "binaryOp Add ref ref" => (k_here; k_dflt (k_extra "m addl"))
  k_with "eval ListComp" => (k_here; k_extra "m comp")
  k_with "subscriptTail" => (k_here; k_dflt (k_extra "m item"))
  k_with "execs cons" => (k_here; k_extra "m stmt")
  trivial
theorem leaf_shape {o : Obj} {lf : Leaf} (hl : LeafObj o lf) (h2 : lf ≠ .arb) : ∃ K t, ((∃ v, o = tup [.str K t, v]) ∨ o = tup [.str K t]) ∧ (K == Str.ofString "arb") = false ∧ (K == Str.ofString "bal") = false ∧ (K == Str.ofString "cat") = false := by
  cases lf
  case arb => exact absurd rfl h2
  all_goals (
    first | obtain ⟨t1, t2, rfl⟩ := hl | obtain ⟨t1, rfl⟩ := hl
    exact ⟨_, _, by first | exact .inl ⟨_, rfl⟩ | exact .inr rfl, by decide +kernel, by decide +kernel, by decide +kernel⟩)
theorem taken_leaf {w : World} {lo : List Str} {mean mg mb} {S : Str} {ts : Tok} {i : Int} {ti : Tok} {ha na pa hs : Addr} {rest : Value} {o : Obj} {lf : Leaf} (hl : LeafObj o lf) (h2 : lf ≠ .arb) (h3 : S.length < 200) (h0 : 0 ≤ i) (h1 : i ≤ S.length) (hk : lf.ok) :
    Spec w lo mean mg mb 560 1600 439 [.ref ha, rest, .int i ti, .ref na, .str S ts, .ref pa, .ref hs] [(ha, o)] (TakenPost rest na ha o (leafEnd S i lf)) := by
  intro gd frs base g s Q E B X T st sz N hret
  obtain ⟨K, t1, ho, n1, n2, -⟩ := leaf_shape hl h2
  k_with "m call" => (
    refine' use_spec ?B ?F ?X ?T ?N ?hA ?hf ?hk ?hh ?hd ?hu (settled_leaf hl h2) ?tk ?off ?_
    k_extra "m use"
    k_whole
    rintro _ h' tk' _ F' N' ⟨rfl, rfl⟩ _
    (try dsimp only [List.cons_append, List.nil_append] at N')
    (try dsimp only)
    (try k_fold))
  k_with "m call" => (
    refine' use_spec ?B ?F ?X ?T ?N ?hA ?hf ?hk ?hh ?hd ?hu (plain_leaf hl h2 h3 h0 h1 hk) ?tk ?off ?_
    k_extra "m use"
    k_whole
    rintro r' h' tk' _ F' N' ⟨hr, rfl⟩ _
    rcases optv_cases hr with ⟨e1, t1, he, rfl⟩ | ⟨he, rfl⟩
    all_goals (
      (try dsimp only [List.cons_append, List.nil_append] at N')
      (try dsimp only)
      (try k_fold)))
  rcases ho with ⟨v1, rfl⟩ | rfl
  all_goals (
    refine' enterS [(Str.ofString "here", .ref ha), (Str.ofString "rest", rest), (Str.ofString "at", .int i ti), (Str.ofString "named", .ref na), (Str.ofString "subject", .str S ts), (Str.ofString "pile", .ref pa), (Str.ofString "host", .ref hs)] ?k1 ?k2 ?k3 ?k4 ?k5 ?k6 ?k7 ?hb ?hs ?k8 ?k9 ?k10 ?k11 ?_ ?c1 ?c2 ?c3 ?c4
    k_extra "m enter"
    k_steps)
  all_goals (k_extra "m end"; (case e2 => k_extra "m all"); (case e3 => first | exact tp_some he | exact tp_none he))
end

section
theorem regMB6 : (fun (_ : OpenLaw) (_ : Params → Frag) => True) PySem.Challenge.rw_sj0197_01 KF := by
  k_with_none
  k_with "m enter" => (
    (case k1 => exact B); (case k2 => exact X); (case k3 => exact T); (case k4 => exact st); (case k5 => exact sz); (case k6 => exact N)
    (case k7 => k_dflt k_is)
    (case hb => (conv => lhs; whnf))
    (case hs => (conv => lhs; whnf))
    (case k8 => k_dflt k_is)
    (case k9 => decide)
    (case k10 => exact BindsTo.of_eq rfl)
    (case k11 => exact locs rfl)
    (case c1 => exact rfl); (case c2 => exact rfl); (case c3 => exact rfl); (case c4 => decide)
    clear st sz N
    intro L h F N'
    (try dsimp only)
    (try k_fold))
  k_with "m end" => ((try k_unfold); (try dsimp only); refine' hret _ _ _ ?e1 ?e2 ?e3 ?e4; (case e1 => exact Fr.keep (by k_asm)); (case e4 => k_extra "m kept"))
  k_with "m kept" => (first | exact kept_nil | (refine' kept_tup ?ka ?kb ?kc; (case ka => k_asm); (case kb => k_mem); (case kc => k_extra "m kept")) | (refine' kept_not ?kd ?ke ?kf; (case kd => k_extra "m cls"); (case ke => decide); (case kf => k_extra "m kept")))
  k_with "m sub" => (first | exact subNil | exact subRefl | (refine' subStep ?su; (case su => k_extra "m sub")) | (refine' subUpS ?sk ?su; (case sk => ((fail_if_success (refine skipOf ?_; k_mem)); exact trivial)); (case su => k_extra "m sub")) | (refine' subCons ?sa ?sb; (case sa => k_mem); (case sb => k_extra "m sub")))
  k_with "m same" => (
    intro z h2 h3
    simp only [List.forall_mem_cons, List.not_mem_nil, false_implies, implies_true, and_true, ne_eq] at h2
    simp [kstB, h2])
  k_with "m same2" => (
    intro z h2 h3
    dsimp only [isPs, psOf] at h2
    simp only [List.forall_mem_cons, List.not_mem_nil, false_implies, implies_true, and_true, ne_eq] at h2
    simp only [List.contains_cons, List.contains_nil, Bool.or_false, Bool.or_eq_false_iff, beq_eq_false_iff_ne, ne_eq] at h3
    simp [kstB, h2, h3])
  k_with "m same3" => (
    intro z h2 h3
    simp only [List.forall_mem_cons, List.not_mem_nil, false_implies, implies_true, and_true, ne_eq] at h2
    simp only [List.contains_cons, List.contains_nil, Bool.or_false, beq_eq_false_iff_ne, ne_eq] at h3
    simp [kstB, h2, h3])
  k_with "m same4" => (
    intro z h2 h3
    simp only [List.forall_mem_cons, List.not_mem_nil, false_implies, implies_true, and_true, ne_eq] at h2
    simp only [List.contains_cons, List.contains_nil, Bool.or_false, Bool.or_eq_false_iff, beq_eq_false_iff_ne, ne_eq] at h3
    simp [kstB, h2, h3])
  k_with "m led" => (dsimp only [isLed, osLed, fxL, vD, hD, List.cons_append, List.nil_append]; k_extra "m sub")
  k_with "m ps" => (dsimp only [isPs, psOf]; kst_all)
  k_with "m all" => exact newsOut (by k_asm)
  k_with "m outA" => exact newsSub (by k_asm) (subApp (by k_extra "m sub"))
  k_with "m out" => exact newsSub (by k_asm) (by k_extra "m sub")
  k_with "m t1" => (first | with_reducible exact Take1.head | (refine' Take1.tail ?mt; (case mt => k_extra "m t1")))
  k_with "m take" => (first | exact TakeL.nil | (refine' TakeL.cons ?ma ?mb; (case ma => k_extra "m t1"); (case mb => k_extra "m take")))
  k_with "m cls" => (first | assumption | exact dict_cls (by assumption) | (conv => lhs; whnf))
  k_with "m nocell" => exact rfl
  k_with "m ne" => (first | assumption | (refine Ne.symm ?_; assumption) | (refine' ne_cls ?na ?nb ?nc ?nd ?nf ?ng; (case na => k_asm); (case nb => k_mem); (case nc => k_mem); (case nd => k_extra "m cls"); (case nf => k_extra "m cls"); (case ng => decide)) | (refine' ne_cell ?na ?nb ?nc ?nd ?nf; (case na => k_asm); (case nb => k_mem); (case nc => k_mem); (case nd => assumption); (case nf => k_extra "m nocell")) | (refine Ne.symm ?_; refine' ne_cell ?na ?nb ?nc ?nd ?nf; (case na => k_asm); (case nb => k_mem); (case nc => k_mem); (case nd => assumption); (case nf => k_extra "m nocell")) | (refine neN ?_; (try dsimp only); omega))
  k_with "m ne1" => (first | exact ne1_nil | (refine' ne1_tup ?nt ?nu; (case nt => first | exact rfl | assumption); (case nu => k_extra "m ne1")) | (refine' ne1_cls ?n1 ?n2 ?n3 ?n4; (case n1 => k_extra "m cls"); (case n2 => k_extra "m cls"); (case n3 => decide); (case n4 => k_extra "m ne1")) | (refine' ne1_cell ?n1 ?n2 ?n4; (case n1 => assumption); (case n2 => k_extra "m nocell"); (case n4 => k_extra "m ne1")) | (refine' ne1_cons ?nv ?nw; (case nv => k_extra "m ne"); (case nw => k_extra "m ne1")))
  k_with "m off" => (first | exact off_nil | k_extra "m offop" | (refine' off_consT ?oc ?ob; (case oc => first | exact rfl | assumption); (case ob => k_extra "m off")) | (refine' off_cons ?oa ?ob; (case oa => k_extra "m ne1"); (case ob => k_extra "m off")))
  k_with "m use" => (
    (case hA => exact rfl); (case hf => exact rfl); (case hk => exact rfl); (case hh => exact rfl)
    (case B => k_asm); (case F => k_asm); (case X => k_asm); (case T => k_asm); (case N => k_asm)
    (case hd => exact Nat.le_of_ble_eq_true rfl); (case hu => exact Nat.le_of_ble_eq_true rfl)
    (case tk => k_extra "m take")
    (case off => k_extra "m off"))
  k_with "call ref" => (k_here; k_dflt (k_extra "m call"))
  k_with "compareOp NotIn str ref" => (k_here; k_dflt (refine' notin_tuple_strs ?k1 ?k2 ?_; (case k1 => exact tupK (by k_in) (by k_is)); (case k2 => kde_strs); k_whole))
  k_with "compareOp In str ref" => (k_here; k_dflt (refine' in_tuple_strs ?k1 ?k2 ?_; (case k1 => exact tupK (by k_in) (by k_is)); (case k2 => kde_strs); k_whole))
  k_with "setItem ref str" => (k_here; k_dflt (refine' setItem_K PyProof.V.same_str (strKind_is _ _ _ _) ?v ?F ?N ?U ?d ?f ?_ ?z; (case F => k_asm); (case N => k_asm); (case U => k_updF); (case d => k_asm); (case f => k_asm); (case z => exact line_of_lenLe (n := 5) (by assumption) (by decide)); (case v => k_flat)); intro h' o' F' N' hd' hf'; (try dsimp only at N'); (try k_sweep))
  k_with "compareOp Eq ref str" => (k_here; k_dflt (refine' eq_tup_str ?k1 ?k2 ?k3 ?_; (case k1 => k_asm); (case k2 => k_mem); (case k3 => exact Nat.le_of_ble_eq_true rfl); k_whole))
  k_with "CompSrc" => (k_here; k_dflt (k_extra "m src"))
  k_with "CompEnd" => (k_here; k_extra "m compend")
  k_with "call builtin:sorted" => (k_here; k_dflt (k_extra "m sorted"))
  k_with "compareOp NotEq str str" => (k_here; k_extra "m neq")
  k_with "compareOp Eq str str" => (k_here; k_extra "m eqs")
  k_with "call builtin:str.join" => (k_here; k_dflt (k_extra "m join"))
  k_with "eval Lambda" => (k_here; k_dflt (k_extra "m lam"))
  k_with "compareOp NotEq int int" => (k_here; k_dflt (k_extra "m neqi"))
  k_with "compareOp NotEq ref ref" => (k_here; k_dflt (k_extra "m neqt"))
  k_with "call builtin:len" => (k_here; k_dflt (k_extra "m len"))
  k_with "binaryOp Add ref ref" => (k_here; k_dflt (k_extra "m addl"))
  k_with "eval ListComp" => (k_here; k_extra "m comp")
  k_with "subscriptTail" => (k_here; k_dflt (k_extra "m item"))
  k_with "execs cons" => (k_here; k_extra "m stmt")
  trivial
def ArbPost (S : Str) (i : Int) (ti t1 : Tok) (rest : Value) (na ha pa : Addr) (vs : List Value) (n : Nat) (r : Value) (post : Led) : Prop :=
  ∃ ra : Addr, r = .ref ra ∧ ((i < S.length ∧ ∃ (wa ca : Addr) (t : Tok), post = [(ra, tup [rest, .int i ti, .ref na]), (wa, tup [.ref ca, .int (i + 1) t, .ref na]), (ca, tup [.ref ha, rest]), (ha, tup [.str (Str.ofString "arb") t1]), (pa, listOf (vs ++ [Value.ref wa]).toArray (n + 1))]) ∨
    (¬ i < S.length ∧ post = [(ra, tup [rest, .int i ti, .ref na]), (ha, tup [.str (Str.ofString "arb") t1]), (pa, listOf vs.toArray n)]))
theorem taken_arb {w : World} {lo : List Str} {mean mg mb} {S : Str} {ts : Tok} {i : Int} {ti t1 : Tok} {ha na pa hs : Addr} {rest : Value} {vs : List Value} {n : Nat} (h3 : S.length < 200) (h0 : 0 ≤ i) (h1 : i ≤ S.length) (hv : vs.length < 10) :
    Spec w lo mean mg mb 560 1600 439 [.ref ha, rest, .int i ti, .ref na, .str S ts, .ref pa, .ref hs] [(ha, tup [.str (Str.ofString "arb") t1]), (pa, listOf vs.toArray n)] (ArbPost S i ti t1 rest na ha pa vs n) := by
  intro gd frs base g s Q E B X T st sz N hret
  refine' enterS [(Str.ofString "here", .ref ha), (Str.ofString "rest", rest), (Str.ofString "at", .int i ti), (Str.ofString "named", .ref na), (Str.ofString "subject", .str S ts), (Str.ofString "pile", .ref pa), (Str.ofString "host", .ref hs)] ?k1 ?k2 ?k3 ?k4 ?k5 ?k6 ?k7 ?hb ?hs ?k8 ?k9 ?k10 ?k11 ?_ ?c1 ?c2 ?c3 ?c4
  k_extra "m enter"
  k_steps
  all_goals (
    k_extra "m end"
    (case e2 => k_extra "m all")
    (case e3 => first
      | exact ⟨_, rfl, .inl ⟨by assumption, _, _, _, (by rw [← List.push_toArray])⟩⟩
      | exact ⟨_, rfl, .inr ⟨by assumption, rfl⟩⟩))
theorem leaf_kind {o : Obj} {lf : Leaf} (hl : LeafObj o lf) (h2 : lf ≠ .arb) : ∃ K t, ((∃ v, o = tup [.str K t, v]) ∨ o = tup [.str K t]) ∧ K.length ≤ 10 ∧
    ([Str.ofString "cat", Str.ofString "alt", Str.ofString "arbno", Str.ofString "later", Str.ofString "now"].any fun x => x == K) = false ∧ (Txt.slice K none (some 4) == Str.ofString "end ") = false ∧ (K == Str.ofString "cursor") = false ∧ (K == Str.ofString "delay") = false ∧
    ([Str.ofString "fence", Str.ofString "abort", Str.ofString "fail", Str.ofString "succeed"].any fun x => x == K) = false := by
  cases lf
  case arb => exact absurd rfl h2
  all_goals (
    first | obtain ⟨t1, t2, rfl⟩ := hl | obtain ⟨t1, rfl⟩ := hl
    exact ⟨_, _, by first | exact .inl ⟨_, rfl⟩ | exact .inr rfl, by decide +kernel, by decide +kernel, by decide +kernel, by decide +kernel, by decide +kernel, by decide +kernel⟩)
theorem taken_cases {rest : Value} {na ha : Addr} {o : Obj} {e : Option Int} {r : Value} {post : Led} (h : TakenPost rest na ha o e r post) :
    (∃ i ra t, e = some i ∧ r = .ref ra ∧ post = [(ra, tup [rest, .int i t, .ref na]), (ha, o)]) ∨ (e = none ∧ r = .none ∧ post = [(ha, o)]) := by
  cases e with
  | none => exact .inr ⟨rfl, h⟩
  | some i => obtain ⟨ra, t, h⟩ := h; exact .inl ⟨i, ra, t, rfl, h⟩
def AdvPost (rest : Value) (na ha ca : Addr) (o : Obj) (e : Option Int) (r : Value) (post : Led) : Prop :=
  (∃ (i : Int) (ra : Addr) (t : Tok), e = some i ∧ r = .ref ra ∧ post = [(ra, tup [rest, .int i t, .ref na]), (ha, o), (ca, tup [.ref ha, rest])]) ∨ (e = none ∧ r = .none ∧ post = [(ha, o), (ca, tup [.ref ha, rest])])
theorem adv_leaf {w : World} {lo : List Str} {mean mg mb} {S : Str} {ts : Tok} {i : Int} {ti : Tok} {ca ha na pa hs : Addr} {rest : Value} {o : Obj} {lf : Leaf} (hl : LeafObj o lf) (h2 : lf ≠ .arb) (h3 : S.length < 200) (h0 : 0 ≤ i) (h1 : i ≤ S.length) (hk : lf.ok) :
    Spec w lo mean mg mb 550 1500 411 [.ref ca, .int i ti, .ref na, .str S ts, .ref pa, .ref hs] [(ca, tup [.ref ha, rest]), (ha, o)] (AdvPost rest na ha ca o (leafEnd S i lf)) := by
  intro gd frs base g s Q E B X T st sz N hret
  obtain ⟨K, t1, ho, n0, n1, n2, n3, n4, n5⟩ := leaf_kind hl h2
  k_with "m call" => (
    refine' use_spec ?B ?F ?X ?T ?N ?hA ?hf ?hk ?hh ?hd ?hu (taken_leaf hl h2 h3 h0 h1 hk) ?tk ?off ?_
    k_extra "m use"
    k_whole
    rintro r' h' tk' post' F' N' hr hO
    clear hO
    rcases taken_cases hr with ⟨e1, ra, t2, he, rfl, rfl⟩ | ⟨he, rfl, rfl⟩
    all_goals (
      (try dsimp only [List.cons_append, List.nil_append] at N')
      (try dsimp only)
      (try k_fold)))
  rcases ho with ⟨v1, rfl⟩ | rfl
  all_goals (
    refine' enterS [(Str.ofString "chain", .ref ca), (Str.ofString "at", .int i ti), (Str.ofString "named", .ref na), (Str.ofString "subject", .str S ts), (Str.ofString "pile", .ref pa), (Str.ofString "host", .ref hs)] ?k1 ?k2 ?k3 ?k4 ?k5 ?k6 ?k7 ?hb ?hs ?k8 ?k9 ?k10 ?k11 ?_ ?c1 ?c2 ?c3 ?c4
    k_extra "m enter"
    k_steps)
  all_goals (k_extra "m end"; (case e3 => first | exact .inl ⟨e1, ra, t2, he, rfl, rfl⟩ | exact .inr ⟨he, rfl, rfl⟩); (case e2 => k_extra "m out"))
end

section
theorem regMB7 : (fun (_ : OpenLaw) (_ : Params → Frag) => True) PySem.Challenge.rw_sj0197_01 KF := by
  k_with_none
  k_with "m enter" => (
    (case k1 => exact B); (case k2 => exact X); (case k3 => exact T); (case k4 => exact st); (case k5 => exact sz); (case k6 => exact N)
    (case k7 => k_dflt k_is)
    (case hb => (conv => lhs; whnf))
    (case hs => (conv => lhs; whnf))
    (case k8 => k_dflt k_is)
    (case k9 => decide)
    (case k10 => exact BindsTo.of_eq rfl)
    (case k11 => exact locs rfl)
    (case c1 => exact rfl); (case c2 => exact rfl); (case c3 => exact rfl); (case c4 => decide)
    clear st sz N
    intro L h F N'
    (try dsimp only)
    (try k_fold))
  k_with "m end" => ((try k_unfold); (try dsimp only); refine' hret _ _ _ ?e1 ?e2 ?e3 ?e4; (case e1 => exact Fr.keep (by k_asm)); (case e4 => k_extra "m kept"))
  k_with "m kept" => (first | exact kept_nil | (refine' kept_tup ?ka ?kb ?kc; (case ka => k_asm); (case kb => k_mem); (case kc => k_extra "m kept")) | (refine' kept_not ?kd ?ke ?kf; (case kd => k_extra "m cls"); (case ke => decide); (case kf => k_extra "m kept")))
  k_with "m sub" => (first | exact subNil | exact subRefl | (refine' subStep ?su; (case su => k_extra "m sub")) | (refine' subUpS ?sk ?su; (case sk => ((fail_if_success (refine skipOf ?_; k_mem)); exact trivial)); (case su => k_extra "m sub")) | (refine' subCons ?sa ?sb; (case sa => k_mem); (case sb => k_extra "m sub")))
  k_with "m same" => (
    intro z h2 h3
    simp only [List.forall_mem_cons, List.not_mem_nil, false_implies, implies_true, and_true, ne_eq] at h2
    simp [kstB, h2])
  k_with "m same2" => (
    intro z h2 h3
    dsimp only [isPs, psOf] at h2
    simp only [List.forall_mem_cons, List.not_mem_nil, false_implies, implies_true, and_true, ne_eq] at h2
    simp only [List.contains_cons, List.contains_nil, Bool.or_false, Bool.or_eq_false_iff, beq_eq_false_iff_ne, ne_eq] at h3
    simp [kstB, h2, h3])
  k_with "m same3" => (
    intro z h2 h3
    simp only [List.forall_mem_cons, List.not_mem_nil, false_implies, implies_true, and_true, ne_eq] at h2
    simp only [List.contains_cons, List.contains_nil, Bool.or_false, beq_eq_false_iff_ne, ne_eq] at h3
    simp [kstB, h2, h3])
  k_with "m same4" => (
    intro z h2 h3
    simp only [List.forall_mem_cons, List.not_mem_nil, false_implies, implies_true, and_true, ne_eq] at h2
    simp only [List.contains_cons, List.contains_nil, Bool.or_false, Bool.or_eq_false_iff, beq_eq_false_iff_ne, ne_eq] at h3
    simp [kstB, h2, h3])
  k_with "m led" => (dsimp only [isLed, osLed, fxL, vD, hD, List.cons_append, List.nil_append]; k_extra "m sub")
  k_with "m ps" => (dsimp only [isPs, psOf]; kst_all)
  k_with "m all" => exact newsOut (by k_asm)
  k_with "m outA" => exact newsSub (by k_asm) (subApp (by k_extra "m sub"))
  k_with "m out" => exact newsSub (by k_asm) (by k_extra "m sub")
  k_with "m t1" => (first | with_reducible exact Take1.head | (refine' Take1.tail ?mt; (case mt => k_extra "m t1")))
  k_with "m take" => (first | exact TakeL.nil | (refine' TakeL.cons ?ma ?mb; (case ma => k_extra "m t1"); (case mb => k_extra "m take")))
  k_with "m cls" => (first | assumption | exact dict_cls (by assumption) | (conv => lhs; whnf))
  k_with "m nocell" => exact rfl
  k_with "m ne" => (first | assumption | (refine Ne.symm ?_; assumption) | (refine' ne_cls ?na ?nb ?nc ?nd ?nf ?ng; (case na => k_asm); (case nb => k_mem); (case nc => k_mem); (case nd => k_extra "m cls"); (case nf => k_extra "m cls"); (case ng => decide)) | (refine' ne_cell ?na ?nb ?nc ?nd ?nf; (case na => k_asm); (case nb => k_mem); (case nc => k_mem); (case nd => assumption); (case nf => k_extra "m nocell")) | (refine Ne.symm ?_; refine' ne_cell ?na ?nb ?nc ?nd ?nf; (case na => k_asm); (case nb => k_mem); (case nc => k_mem); (case nd => assumption); (case nf => k_extra "m nocell")) | (refine neN ?_; (try dsimp only); omega))
  k_with "m ne1" => (first | exact ne1_nil | (refine' ne1_tup ?nt ?nu; (case nt => first | exact rfl | assumption); (case nu => k_extra "m ne1")) | (refine' ne1_cls ?n1 ?n2 ?n3 ?n4; (case n1 => k_extra "m cls"); (case n2 => k_extra "m cls"); (case n3 => decide); (case n4 => k_extra "m ne1")) | (refine' ne1_cell ?n1 ?n2 ?n4; (case n1 => assumption); (case n2 => k_extra "m nocell"); (case n4 => k_extra "m ne1")) | (refine' ne1_cons ?nv ?nw; (case nv => k_extra "m ne"); (case nw => k_extra "m ne1")))
  k_with "m off" => (first | exact off_nil | k_extra "m offop" | (refine' off_consT ?oc ?ob; (case oc => first | exact rfl | assumption); (case ob => k_extra "m off")) | (refine' off_cons ?oa ?ob; (case oa => k_extra "m ne1"); (case ob => k_extra "m off")))
  k_with "m use" => (
    (case hA => exact rfl); (case hf => exact rfl); (case hk => exact rfl); (case hh => exact rfl)
    (case B => k_asm); (case F => k_asm); (case X => k_asm); (case T => k_asm); (case N => k_asm)
    (case hd => exact Nat.le_of_ble_eq_true rfl); (case hu => exact Nat.le_of_ble_eq_true rfl)
    (case tk => k_extra "m take")
    (case off => k_extra "m off"))
  k_with "call ref" => (k_here; k_dflt (k_extra "m call"))
  k_with "compareOp NotIn str ref" => (k_here; k_dflt (refine' notin_tuple_strs ?k1 ?k2 ?_; (case k1 => exact tupK (by k_in) (by k_is)); (case k2 => kde_strs); k_whole))
  k_with "compareOp In str ref" => (k_here; k_dflt (refine' in_tuple_strs ?k1 ?k2 ?_; (case k1 => exact tupK (by k_in) (by k_is)); (case k2 => kde_strs); k_whole))
  k_with "setItem ref str" => (k_here; k_dflt (refine' setItem_K PyProof.V.same_str (strKind_is _ _ _ _) ?v ?F ?N ?U ?d ?f ?_ ?z; (case F => k_asm); (case N => k_asm); (case U => k_updF); (case d => k_asm); (case f => k_asm); (case z => exact line_of_lenLe (n := 5) (by assumption) (by decide)); (case v => k_flat)); intro h' o' F' N' hd' hf'; (try dsimp only at N'); (try k_sweep))
  k_with "compareOp Eq ref str" => (k_here; k_dflt (refine' eq_tup_str ?k1 ?k2 ?k3 ?_; (case k1 => k_asm); (case k2 => k_mem); (case k3 => exact Nat.le_of_ble_eq_true rfl); k_whole))
  k_with "CompSrc" => (k_here; k_dflt (k_extra "m src"))
  k_with "CompEnd" => (k_here; k_extra "m compend")
  k_with "call builtin:sorted" => (k_here; k_dflt (k_extra "m sorted"))
  k_with "compareOp NotEq str str" => (k_here; k_extra "m neq")
  k_with "compareOp Eq str str" => (k_here; k_extra "m eqs")
  k_with "call builtin:str.join" => (k_here; k_dflt (k_extra "m join"))
  k_with "eval Lambda" => (k_here; k_dflt (k_extra "m lam"))
  k_with "compareOp NotEq int int" => (k_here; k_dflt (k_extra "m neqi"))
  k_with "compareOp NotEq ref ref" => (k_here; k_dflt (k_extra "m neqt"))
  k_with "call builtin:len" => (k_here; k_dflt (k_extra "m len"))
  k_with "binaryOp Add ref ref" => (k_here; k_dflt (k_extra "m addl"))
  k_with "eval ListComp" => (k_here; k_extra "m comp")
  k_with "subscriptTail" => (k_here; k_dflt (k_extra "m item"))
  k_with "execs cons" => (k_here; k_extra "m stmt")
  trivial
abbrev hostD (w : World) (k1 k2 k3 k4 k5 k6 : Tok) (vd rl lg : Addr) (tl tw : Tok) (n : Int) (tn : Tok) : Obj :=
  dictOf [⟨PyData.keyHash w.params (Str.ofString "values"), .str (Str.ofString "values") k1, .ref vd⟩, ⟨PyData.keyHash w.params (Str.ofString "limit"), .str (Str.ofString "limit") k2, .int 999 tl⟩, ⟨PyData.keyHash w.params (Str.ofString "refused"), .str (Str.ofString "refused") k3, .ref rl⟩,
    ⟨PyData.keyHash w.params (Str.ofString "width"), .str (Str.ofString "width") k4, .int 64 tw⟩, ⟨PyData.keyHash w.params (Str.ofString "steps"), .str (Str.ofString "steps") k5, .int n tn⟩, ⟨PyData.keyHash w.params (Str.ofString "log"), .str (Str.ofString "log") k6, .ref lg⟩] 6
abbrev refD (w : World) (k1 k2 k3 : Tok) (key : Str) (t1 t3 : Tok) : Obj :=
  dictOf [⟨PyData.keyHash w.params (Str.ofString "kind"), .str (Str.ofString "kind") k1, .str (Str.ofString "var") t1⟩, ⟨PyData.keyHash w.params (Str.ofString "owner"), .str (Str.ofString "owner") k2, .none⟩, ⟨PyData.keyHash w.params (Str.ofString "key"), .str (Str.ofString "key") k3, .str key t3⟩] 3
theorem step_spec {w : World} {lo : List Str} {mean mg mb} {hs hd vd rl lg : Addr} {k1 k2 k3 k4 k5 k6 tl tw tn : Tok} {n : Int} (h0 : 0 ≤ n) (h1 : n < 999) :
    Spec w lo mean mg mb 550 1500 226 [.ref hs] [(hs, instObj 229 hd), (hd, hostD w k1 k2 k3 k4 k5 k6 vd rl lg tl tw n tn)] (fun r post => ∃ t, r = .none ∧ post = [(hs, instObj 229 hd), (hd, hostD w k1 k2 k3 k4 k5 k6 vd rl lg tl tw (n + 1) t)]) := by
  intro gd frs base g s Q E B X T st sz N hret
  refine' enterS [(Str.ofString "self", .ref hs)] ?k1 ?k2 ?k3 ?k4 ?k5 ?k6 ?k7 ?hb ?hs ?k8 ?k9 ?k10 ?k11 ?_ ?c1 ?c2 ?c3 ?c4
  k_extra "m enter"
  k_steps
  k_extra "m end"
  (case e2 => k_extra "m all")
  (case e3 => exact ⟨_, rfl, rfl⟩)
theorem assign_spec {w : World} {lo : List Str} {mean mg mb} {hs hd ra rd vd rl lg : Addr} {k1 k2 k3 k4 k5 k6 tl tw tn j1 j2 j3 u1 u3 tx : Tok} {n : Int} {key x : Str} {od : Obj} {rn ln : Nat} {lv : List Value} {kvs : List (Str × Value)} {D : List (PyData × PyData)}
    (hd1 : od.IsDictOf (strKind PW w) kvs) (hd2 : V.FlatPairs PyData.str kvs D) (hd3 : (vd == sysModules) = false) (hd4 : PyProof.V.LenLe D 5) (hl : lv.length < 1000) (hk : key.length < 10) (hx : x.length < 1000)
    (n2 : @Ne Nat hd vd) (n4 : @Ne Nat rd vd) (n11 : @Ne Nat rl lg) :
    Spec w lo mean mg mb 560 1600 219 [.ref hs, .ref ra, .str x tx] [(hs, instObj 229 hd), (hd, hostD w k1 k2 k3 k4 k5 k6 vd rl lg tl tw n tn), (ra, instObj 138 rd), (rd, refD w j1 j2 j3 key u1 u3), (vd, od), (rl, listOf #[] rn), (lg, listOf lv.toArray ln)]
      (fun r post => ∃ (od' : Obj) (da : Addr), r = .bool true ∧ od'.IsDictOf (strKind PW w) (stored kvs key (.str x tx)) ∧ V.FlatPairs PyData.str (stored kvs key (.str x tx)) (PyProof.V.putD (.str key) (.str x) D) ∧ post = [(da, tup [.str key u3, .str x tx]), (hs, instObj 229 hd), (hd, hostD w k1 k2 k3 k4 k5 k6 vd rl lg tl tw n tn), (ra, instObj 138 rd), (rd, refD w j1 j2 j3 key u1 u3), (vd, od'), (rl, listOf #[] rn), (lg, listOf (lv ++ [Value.ref da]).toArray (ln + 1))]) := by
  intro gd frs base g s Q E B X T st sz N hret
  refine' enterS [(Str.ofString "self", .ref hs), (Str.ofString "ref", .ref ra), (Str.ofString "value", .str x tx)] ?k1 ?k2 ?k3 ?k4 ?k5 ?k6 ?k7 ?hb ?hs ?k8 ?k9 ?k10 ?k11 ?_ ?c1 ?c2 ?c3 ?c4
  k_extra "m enter"
  k_steps
  · exact absurd (by assumption : ([].any _) = true) (by simp)
  · k_extra "m end"
    (case e2 => k_extra "m all")
    (case e3 => exact ⟨_, _, rfl, by assumption, by assumption, by rw [← List.push_toArray]⟩)
end

section
theorem regMB8 : (fun (_ : OpenLaw) (_ : Params → Frag) => True) PySem.Challenge.rw_sj0197_01 KF := by
  k_with_none
  k_with "m enter" => (
    (case k1 => exact B); (case k2 => exact X); (case k3 => exact T); (case k4 => exact st); (case k5 => exact sz); (case k6 => exact N)
    (case k7 => k_dflt k_is)
    (case hb => (conv => lhs; whnf))
    (case hs => (conv => lhs; whnf))
    (case k8 => k_dflt k_is)
    (case k9 => decide)
    (case k10 => exact BindsTo.of_eq rfl)
    (case k11 => exact locs rfl)
    (case c1 => exact rfl); (case c2 => exact rfl); (case c3 => exact rfl); (case c4 => decide)
    clear st sz N
    intro L h F N'
    (try dsimp only)
    (try k_fold))
  k_with "m end" => ((try k_unfold); (try dsimp only); refine' hret _ _ _ ?e1 ?e2 ?e3 ?e4; (case e1 => exact Fr.keep (by k_asm)); (case e4 => k_extra "m kept"))
  k_with "m kept" => (first | exact kept_nil | (refine' kept_tup ?ka ?kb ?kc; (case ka => k_asm); (case kb => k_mem); (case kc => k_extra "m kept")) | (refine' kept_not ?kd ?ke ?kf; (case kd => k_extra "m cls"); (case ke => decide); (case kf => k_extra "m kept")))
  k_with "m sub" => (first | exact subNil | exact subRefl | (refine' subStep ?su; (case su => k_extra "m sub")) | (refine' subUpS ?sk ?su; (case sk => ((fail_if_success (refine skipOf ?_; k_mem)); exact trivial)); (case su => k_extra "m sub")) | (refine' subCons ?sa ?sb; (case sa => k_mem); (case sb => k_extra "m sub")))
  k_with "m same" => (
    intro z h2 h3
    simp only [List.forall_mem_cons, List.not_mem_nil, false_implies, implies_true, and_true, ne_eq] at h2
    simp [kstB, h2])
  k_with "m same2" => (
    intro z h2 h3
    dsimp only [isPs, psOf] at h2
    simp only [List.forall_mem_cons, List.not_mem_nil, false_implies, implies_true, and_true, ne_eq] at h2
    simp only [List.contains_cons, List.contains_nil, Bool.or_false, Bool.or_eq_false_iff, beq_eq_false_iff_ne, ne_eq] at h3
    simp [kstB, h2, h3])
  k_with "m same3" => (
    intro z h2 h3
    simp only [List.forall_mem_cons, List.not_mem_nil, false_implies, implies_true, and_true, ne_eq] at h2
    simp only [List.contains_cons, List.contains_nil, Bool.or_false, beq_eq_false_iff_ne, ne_eq] at h3
    simp [kstB, h2, h3])
  k_with "m same4" => (
    intro z h2 h3
    simp only [List.forall_mem_cons, List.not_mem_nil, false_implies, implies_true, and_true, ne_eq] at h2
    simp only [List.contains_cons, List.contains_nil, Bool.or_false, Bool.or_eq_false_iff, beq_eq_false_iff_ne, ne_eq] at h3
    simp [kstB, h2, h3])
  k_with "m led" => (dsimp only [isLed, osLed, fxL, vD, hD, List.cons_append, List.nil_append]; k_extra "m sub")
  k_with "m ps" => (dsimp only [isPs, psOf]; kst_all)
  k_with "m all" => exact newsOut (by k_asm)
  k_with "m outA" => exact newsSub (by k_asm) (subApp (by k_extra "m sub"))
  k_with "m out" => exact newsSub (by k_asm) (by k_extra "m sub")
  k_with "m t1" => (first | with_reducible exact Take1.head | (refine' Take1.tail ?mt; (case mt => k_extra "m t1")))
  k_with "m take" => (first | exact TakeL.nil | (refine' TakeL.cons ?ma ?mb; (case ma => k_extra "m t1"); (case mb => k_extra "m take")))
  k_with "m cls" => (first | assumption | exact dict_cls (by assumption) | (conv => lhs; whnf))
  k_with "m nocell" => exact rfl
  k_with "m ne" => (first | assumption | (refine Ne.symm ?_; assumption) | (refine' ne_cls ?na ?nb ?nc ?nd ?nf ?ng; (case na => k_asm); (case nb => k_mem); (case nc => k_mem); (case nd => k_extra "m cls"); (case nf => k_extra "m cls"); (case ng => decide)) | (refine' ne_cell ?na ?nb ?nc ?nd ?nf; (case na => k_asm); (case nb => k_mem); (case nc => k_mem); (case nd => assumption); (case nf => k_extra "m nocell")) | (refine Ne.symm ?_; refine' ne_cell ?na ?nb ?nc ?nd ?nf; (case na => k_asm); (case nb => k_mem); (case nc => k_mem); (case nd => assumption); (case nf => k_extra "m nocell")) | (refine neN ?_; (try dsimp only); omega))
  k_with "m ne1" => (first | exact ne1_nil | (refine' ne1_tup ?nt ?nu; (case nt => first | exact rfl | assumption); (case nu => k_extra "m ne1")) | (refine' ne1_cls ?n1 ?n2 ?n3 ?n4; (case n1 => k_extra "m cls"); (case n2 => k_extra "m cls"); (case n3 => decide); (case n4 => k_extra "m ne1")) | (refine' ne1_cell ?n1 ?n2 ?n4; (case n1 => assumption); (case n2 => k_extra "m nocell"); (case n4 => k_extra "m ne1")) | (refine' ne1_cons ?nv ?nw; (case nv => k_extra "m ne"); (case nw => k_extra "m ne1")))
  k_with "m off" => (first | exact off_nil | k_extra "m offop" | (refine' off_consT ?oc ?ob; (case oc => first | exact rfl | assumption); (case ob => k_extra "m off")) | (refine' off_cons ?oa ?ob; (case oa => k_extra "m ne1"); (case ob => k_extra "m off")))
  k_with "m use" => (
    (case hA => exact rfl); (case hf => exact rfl); (case hk => exact rfl); (case hh => exact rfl)
    (case B => k_asm); (case F => k_asm); (case X => k_asm); (case T => k_asm); (case N => k_asm)
    (case hd => exact Nat.le_of_ble_eq_true rfl); (case hu => exact Nat.le_of_ble_eq_true rfl)
    (case tk => k_extra "m take")
    (case off => k_extra "m off"))
  k_with "call ref" => (k_here; k_dflt (k_extra "m call"))
  k_with "compareOp NotIn str ref" => (k_here; k_dflt (refine' notin_tuple_strs ?k1 ?k2 ?_; (case k1 => exact tupK (by k_in) (by k_is)); (case k2 => kde_strs); k_whole))
  k_with "compareOp In str ref" => (k_here; k_dflt (refine' in_tuple_strs ?k1 ?k2 ?_; (case k1 => exact tupK (by k_in) (by k_is)); (case k2 => kde_strs); k_whole))
  k_with "setItem ref str" => (k_here; k_dflt (refine' setItem_K PyProof.V.same_str (strKind_is _ _ _ _) ?v ?F ?N ?U ?d ?f ?_ ?z; (case F => k_asm); (case N => k_asm); (case U => k_updF); (case d => k_asm); (case f => k_asm); (case z => exact line_of_lenLe (n := 5) (by assumption) (by decide)); (case v => k_flat)); intro h' o' F' N' hd' hf'; (try dsimp only at N'); (try k_sweep))
  k_with "compareOp Eq ref str" => (k_here; k_dflt (refine' eq_tup_str ?k1 ?k2 ?k3 ?_; (case k1 => k_asm); (case k2 => k_mem); (case k3 => exact Nat.le_of_ble_eq_true rfl); k_whole))
  k_with "CompSrc" => (k_here; k_dflt (k_extra "m src"))
  k_with "CompEnd" => (k_here; k_extra "m compend")
  k_with "call builtin:sorted" => (k_here; k_dflt (k_extra "m sorted"))
  k_with "compareOp NotEq str str" => (k_here; k_extra "m neq")
  k_with "compareOp Eq str str" => (k_here; k_extra "m eqs")
  k_with "call builtin:str.join" => (k_here; k_dflt (k_extra "m join"))
  k_with "eval Lambda" => (k_here; k_dflt (k_extra "m lam"))
  k_with "compareOp NotEq int int" => (k_here; k_dflt (k_extra "m neqi"))
  k_with "compareOp NotEq ref ref" => (k_here; k_dflt (k_extra "m neqt"))
  k_with "call builtin:len" => (k_here; k_dflt (k_extra "m len"))
  k_with "binaryOp Add ref ref" => (k_here; k_dflt (k_extra "m addl"))
  k_with "eval ListComp" => (k_here; k_extra "m comp")
  k_with "subscriptTail" => (k_here; k_dflt (k_extra "m item"))
  k_with "execs cons" => (k_here; k_extra "m stmt")
  trivial
theorem end_later_is : Str.ofString "end " ++ Str.ofString "later" = Str.ofString "end later" := by decide +kernel
theorem end_now_is : Str.ofString "end " ++ Str.ofString "now" = Str.ofString "end now" := by decide +kernel
theorem adv_cat {w : World} {lo : List Str} {mean mg mb} {S : Str} {ts : Tok} {i : Int} {ti t1 : Tok} {ca no f1 f2 na pa hs : Addr} {rest : Value} :
    Spec w lo mean mg mb 550 1500 411 [.ref ca, .int i ti, .ref na, .str S ts, .ref pa, .ref hs] [(ca, tup [.ref no, rest]), (no, tup [.str (Str.ofString "cat") t1, .ref f1, .ref f2])]
      (fun r post => ∃ ra c1 c2 xa xo, r = .ref ra ∧ post = [(ra, tup [.ref c1, .int i ti, .ref na]), (c1, tup [.ref f1, .ref c2]), (c2, tup [.ref f2, rest]), (xa, xo), (ca, tup [.ref no, rest]), (no, tup [.str (Str.ofString "cat") t1, .ref f1, .ref f2])]) := by
  intro gd frs base g s Q E B X T st sz N hret
  refine' enterS [(Str.ofString "chain", .ref ca), (Str.ofString "at", .int i ti), (Str.ofString "named", .ref na), (Str.ofString "subject", .str S ts), (Str.ofString "pile", .ref pa), (Str.ofString "host", .ref hs)] ?k1 ?k2 ?k3 ?k4 ?k5 ?k6 ?k7 ?hb ?hs ?k8 ?k9 ?k10 ?k11 ?_ ?c1 ?c2 ?c3 ?c4
  k_extra "m enter"
  k_steps
  k_extra "m end"
  (case e2 => k_extra "m all")
  (case e3 => exact ⟨_, _, _, _, _, rfl, rfl⟩)
theorem adv_later {w : World} {lo : List Str} {mean mg mb} {S : Str} {ts : Tok} {i : Int} {ti t1 : Tok} {ca no f1 f2 na pa hs : Addr} {rest : Value} :
    Spec w lo mean mg mb 550 1500 411 [.ref ca, .int i ti, .ref na, .str S ts, .ref pa, .ref hs] [(ca, tup [.ref no, rest]), (no, tup [.str (Str.ofString "later") t1, .ref f1, .ref f2])]
      (fun r post => ∃ ra c1 c2 en t xa xo, r = .ref ra ∧ post = [(ra, tup [.ref c1, .int i ti, .ref na]), (c1, tup [.ref f1, .ref c2]), (c2, tup [.ref en, rest]), (en, tup [.str (Str.ofString "end later") t, .ref f2, .int i ti]), (xa, xo), (ca, tup [.ref no, rest]), (no, tup [.str (Str.ofString "later") t1, .ref f1, .ref f2])]) := by
  intro gd frs base g s Q E B X T st sz N hret
  refine' enterS [(Str.ofString "chain", .ref ca), (Str.ofString "at", .int i ti), (Str.ofString "named", .ref na), (Str.ofString "subject", .str S ts), (Str.ofString "pile", .ref pa), (Str.ofString "host", .ref hs)] ?k1 ?k2 ?k3 ?k4 ?k5 ?k6 ?k7 ?hb ?hs ?k8 ?k9 ?k10 ?k11 ?_ ?c1 ?c2 ?c3 ?c4
  k_extra "m enter"
  k_steps
  k_extra "m end"
  (case e2 => k_extra "m all")
  (case e3 => exact ⟨_, _, _, _, _, _, _, rfl, by rw [← end_later_is]⟩)
theorem adv_now {w : World} {lo : List Str} {mean mg mb} {S : Str} {ts : Tok} {i : Int} {ti t1 : Tok} {ca no f1 f2 na pa hs : Addr} {rest : Value} :
    Spec w lo mean mg mb 550 1500 411 [.ref ca, .int i ti, .ref na, .str S ts, .ref pa, .ref hs] [(ca, tup [.ref no, rest]), (no, tup [.str (Str.ofString "now") t1, .ref f1, .ref f2])]
      (fun r post => ∃ ra c1 c2 en t xa xo, r = .ref ra ∧ post = [(ra, tup [.ref c1, .int i ti, .ref na]), (c1, tup [.ref f1, .ref c2]), (c2, tup [.ref en, rest]), (en, tup [.str (Str.ofString "end now") t, .ref f2, .int i ti]), (xa, xo), (ca, tup [.ref no, rest]), (no, tup [.str (Str.ofString "now") t1, .ref f1, .ref f2])]) := by
  intro gd frs base g s Q E B X T st sz N hret
  refine' enterS [(Str.ofString "chain", .ref ca), (Str.ofString "at", .int i ti), (Str.ofString "named", .ref na), (Str.ofString "subject", .str S ts), (Str.ofString "pile", .ref pa), (Str.ofString "host", .ref hs)] ?k1 ?k2 ?k3 ?k4 ?k5 ?k6 ?k7 ?hb ?hs ?k8 ?k9 ?k10 ?k11 ?_ ?c1 ?c2 ?c3 ?c4
  k_extra "m enter"
  k_steps
  k_extra "m end"
  (case e2 => k_extra "m all")
  (case e3 => exact ⟨_, _, _, _, _, _, _, rfl, by rw [← end_now_is]⟩)
theorem adv_endlater {w : World} {lo : List Str} {mean mg mb} {S : Str} {ts : Tok} {i b : Int} {ti t1 tb : Tok} {ca en wr na pa hs : Addr} {rest : Value} (h3 : S.length < 200) :
    Spec w lo mean mg mb 550 1500 411 [.ref ca, .int i ti, .ref na, .str S ts, .ref pa, .ref hs] [(ca, tup [.ref en, rest]), (en, tup [.str (Str.ofString "end later") t1, .ref wr, .int b tb]), (na, tup [])]
      (fun r post => ∃ ra n2 pr t xa xo, r = .ref ra ∧ post = [(ra, tup [rest, .int i ti, .ref n2]), (n2, tup [.ref pr]), (pr, tup [.ref wr, .str (Txt.slice S (some b) (some i)) t]), (xa, xo), (ca, tup [.ref en, rest]), (en, tup [.str (Str.ofString "end later") t1, .ref wr, .int b tb]), (na, tup [])]) := by
  intro gd frs base g s Q E B X T st sz N hret
  refine' enterS [(Str.ofString "chain", .ref ca), (Str.ofString "at", .int i ti), (Str.ofString "named", .ref na), (Str.ofString "subject", .str S ts), (Str.ofString "pile", .ref pa), (Str.ofString "host", .ref hs)] ?k1 ?k2 ?k3 ?k4 ?k5 ?k6 ?k7 ?hb ?hs ?k8 ?k9 ?k10 ?k11 ?_ ?c1 ?c2 ?c3 ?c4
  k_extra "m enter"
  k_steps
  k_extra "m end"
  (case e2 => k_extra "m all")
  (case e3 => exact ⟨_, _, _, _, _, _, rfl, rfl⟩)
end

section
theorem regMB9 : (fun (_ : OpenLaw) (_ : Params → Frag) => True) PySem.Challenge.rw_sj0197_01 KF := by
  k_with_none
  k_with "m enter" => (
    (case k1 => exact B); (case k2 => exact X); (case k3 => exact T); (case k4 => exact st); (case k5 => exact sz); (case k6 => exact N)
    (case k7 => k_dflt k_is)
    (case hb => (conv => lhs; whnf))
    (case hs => (conv => lhs; whnf))
    (case k8 => k_dflt k_is)
    (case k9 => decide)
    (case k10 => exact BindsTo.of_eq rfl)
    (case k11 => exact locs rfl)
    (case c1 => exact rfl); (case c2 => exact rfl); (case c3 => exact rfl); (case c4 => decide)
    clear st sz N
    intro L h F N'
    (try dsimp only)
    (try k_fold))
  k_with "m end" => ((try k_unfold); (try dsimp only); refine' hret _ _ _ ?e1 ?e2 ?e3 ?e4; (case e1 => exact Fr.keep (by k_asm)); (case e4 => k_extra "m kept"))
  k_with "m kept" => (first | exact kept_nil | (refine' kept_tup ?ka ?kb ?kc; (case ka => k_asm); (case kb => k_mem); (case kc => k_extra "m kept")) | (refine' kept_not ?kd ?ke ?kf; (case kd => k_extra "m cls"); (case ke => decide); (case kf => k_extra "m kept")))
  k_with "m sub" => (first | exact subNil | exact subRefl | (refine' subStep ?su; (case su => k_extra "m sub")) | (refine' subUpS ?sk ?su; (case sk => ((fail_if_success (refine skipOf ?_; k_mem)); exact trivial)); (case su => k_extra "m sub")) | (refine' subCons ?sa ?sb; (case sa => k_mem); (case sb => k_extra "m sub")))
  k_with "m same" => (
    intro z h2 h3
    simp only [List.forall_mem_cons, List.not_mem_nil, false_implies, implies_true, and_true, ne_eq] at h2
    simp [kstB, h2])
  k_with "m same2" => (
    intro z h2 h3
    dsimp only [isPs, psOf] at h2
    simp only [List.forall_mem_cons, List.not_mem_nil, false_implies, implies_true, and_true, ne_eq] at h2
    simp only [List.contains_cons, List.contains_nil, Bool.or_false, Bool.or_eq_false_iff, beq_eq_false_iff_ne, ne_eq] at h3
    simp [kstB, h2, h3])
  k_with "m same3" => (
    intro z h2 h3
    simp only [List.forall_mem_cons, List.not_mem_nil, false_implies, implies_true, and_true, ne_eq] at h2
    simp only [List.contains_cons, List.contains_nil, Bool.or_false, beq_eq_false_iff_ne, ne_eq] at h3
    simp [kstB, h2, h3])
  k_with "m same4" => (
    intro z h2 h3
    simp only [List.forall_mem_cons, List.not_mem_nil, false_implies, implies_true, and_true, ne_eq] at h2
    simp only [List.contains_cons, List.contains_nil, Bool.or_false, Bool.or_eq_false_iff, beq_eq_false_iff_ne, ne_eq] at h3
    simp [kstB, h2, h3])
  k_with "m led" => (dsimp only [isLed, osLed, fxL, vD, hD, List.cons_append, List.nil_append]; k_extra "m sub")
  k_with "m ps" => (dsimp only [isPs, psOf]; kst_all)
  k_with "m all" => exact newsOut (by k_asm)
  k_with "m outA" => exact newsSub (by k_asm) (subApp (by k_extra "m sub"))
  k_with "m out" => exact newsSub (by k_asm) (by k_extra "m sub")
  k_with "m t1" => (first | with_reducible exact Take1.head | (refine' Take1.tail ?mt; (case mt => k_extra "m t1")))
  k_with "m take" => (first | exact TakeL.nil | (refine' TakeL.cons ?ma ?mb; (case ma => k_extra "m t1"); (case mb => k_extra "m take")))
  k_with "m cls" => (first | assumption | exact dict_cls (by assumption) | (conv => lhs; whnf))
  k_with "m nocell" => exact rfl
  k_with "m ne" => (first | assumption | (refine Ne.symm ?_; assumption) | (refine' ne_cls ?na ?nb ?nc ?nd ?nf ?ng; (case na => k_asm); (case nb => k_mem); (case nc => k_mem); (case nd => k_extra "m cls"); (case nf => k_extra "m cls"); (case ng => decide)) | (refine' ne_cell ?na ?nb ?nc ?nd ?nf; (case na => k_asm); (case nb => k_mem); (case nc => k_mem); (case nd => assumption); (case nf => k_extra "m nocell")) | (refine Ne.symm ?_; refine' ne_cell ?na ?nb ?nc ?nd ?nf; (case na => k_asm); (case nb => k_mem); (case nc => k_mem); (case nd => assumption); (case nf => k_extra "m nocell")) | (refine neN ?_; (try dsimp only); omega))
  k_with "m ne1" => (first | exact ne1_nil | (refine' ne1_tup ?nt ?nu; (case nt => first | exact rfl | assumption); (case nu => k_extra "m ne1")) | (refine' ne1_cls ?n1 ?n2 ?n3 ?n4; (case n1 => k_extra "m cls"); (case n2 => k_extra "m cls"); (case n3 => decide); (case n4 => k_extra "m ne1")) | (refine' ne1_cell ?n1 ?n2 ?n4; (case n1 => assumption); (case n2 => k_extra "m nocell"); (case n4 => k_extra "m ne1")) | (refine' ne1_cons ?nv ?nw; (case nv => k_extra "m ne"); (case nw => k_extra "m ne1")))
  k_with "m off" => (first | exact off_nil | k_extra "m offop" | (refine' off_consT ?oc ?ob; (case oc => first | exact rfl | assumption); (case ob => k_extra "m off")) | (refine' off_cons ?oa ?ob; (case oa => k_extra "m ne1"); (case ob => k_extra "m off")))
  k_with "m use" => (
    (case hA => exact rfl); (case hf => exact rfl); (case hk => exact rfl); (case hh => exact rfl)
    (case B => k_asm); (case F => k_asm); (case X => k_asm); (case T => k_asm); (case N => k_asm)
    (case hd => exact Nat.le_of_ble_eq_true rfl); (case hu => exact Nat.le_of_ble_eq_true rfl)
    (case tk => k_extra "m take")
    (case off => k_extra "m off"))
  k_with "call ref" => (k_here; k_dflt (k_extra "m call"))
  k_with "compareOp NotIn str ref" => (k_here; k_dflt (refine' notin_tuple_strs ?k1 ?k2 ?_; (case k1 => exact tupK (by k_in) (by k_is)); (case k2 => kde_strs); k_whole))
  k_with "compareOp In str ref" => (k_here; k_dflt (refine' in_tuple_strs ?k1 ?k2 ?_; (case k1 => exact tupK (by k_in) (by k_is)); (case k2 => kde_strs); k_whole))
  k_with "setItem ref str" => (k_here; k_dflt (refine' setItem_K PyProof.V.same_str (strKind_is _ _ _ _) ?v ?F ?N ?U ?d ?f ?_ ?z; (case F => k_asm); (case N => k_asm); (case U => k_updF); (case d => k_asm); (case f => k_asm); (case z => exact line_of_lenLe (n := 5) (by assumption) (by decide)); (case v => k_flat)); intro h' o' F' N' hd' hf'; (try dsimp only at N'); (try k_sweep))
  k_with "compareOp Eq ref str" => (k_here; k_dflt (refine' eq_tup_str ?k1 ?k2 ?k3 ?_; (case k1 => k_asm); (case k2 => k_mem); (case k3 => exact Nat.le_of_ble_eq_true rfl); k_whole))
  k_with "CompSrc" => (k_here; k_dflt (k_extra "m src"))
  k_with "CompEnd" => (k_here; k_extra "m compend")
  k_with "call builtin:sorted" => (k_here; k_dflt (k_extra "m sorted"))
  k_with "compareOp NotEq str str" => (k_here; k_extra "m neq")
  k_with "compareOp Eq str str" => (k_here; k_extra "m eqs")
  k_with "call builtin:str.join" => (k_here; k_dflt (k_extra "m join"))
  k_with "eval Lambda" => (k_here; k_dflt (k_extra "m lam"))
  k_with "compareOp NotEq int int" => (k_here; k_dflt (k_extra "m neqi"))
  k_with "compareOp NotEq ref ref" => (k_here; k_dflt (k_extra "m neqt"))
  k_with "call builtin:len" => (k_here; k_dflt (k_extra "m len"))
  k_with "binaryOp Add ref ref" => (k_here; k_dflt (k_extra "m addl"))
  k_with "eval ListComp" => (k_here; k_extra "m comp")
  k_with "subscriptTail" => (k_here; k_dflt (k_extra "m item"))
  k_with "execs cons" => (k_here; k_extra "m stmt")
  trivial
theorem adv_arb {w : World} {lo : List Str} {mean mg mb} {S : Str} {ts : Tok} {i : Int} {ti t1 : Tok} {ca ha na pa hs : Addr} {rest : Value} {vs : List Value} {n : Nat} (h3 : S.length < 200) (h0 : 0 ≤ i) (h1 : i ≤ S.length) (hv : vs.length < 10) :
    Spec w lo mean mg mb 550 1500 411 [.ref ca, .int i ti, .ref na, .str S ts, .ref pa, .ref hs] [(ca, tup [.ref ha, rest]), (ha, tup [.str (Str.ofString "arb") t1]), (pa, listOf vs.toArray n)]
      (fun r post => ∃ ra : Addr, r = .ref ra ∧ ((i < S.length ∧ ∃ (wa c1 : Addr) (t : Tok), post = [(ra, tup [rest, .int i ti, .ref na]), (wa, tup [.ref c1, .int (i + 1) t, .ref na]), (c1, tup [.ref ha, rest]), (ha, tup [.str (Str.ofString "arb") t1]), (pa, listOf (vs ++ [Value.ref wa]).toArray (n + 1)), (ca, tup [.ref ha, rest])]) ∨
        (¬ i < S.length ∧ post = [(ra, tup [rest, .int i ti, .ref na]), (ha, tup [.str (Str.ofString "arb") t1]), (pa, listOf vs.toArray n), (ca, tup [.ref ha, rest])]))) := by
  intro gd frs base g s Q E B X T st sz N hret
  k_with "m call" => (
    refine' use_spec ?B ?F ?X ?T ?N ?hA ?hf ?hk ?hh ?hd ?hu (taken_arb h3 h0 h1 hv) ?tk ?off ?_
    k_extra "m use"
    k_whole
    rintro r' h' tk' post' F' N' ⟨ra, rfl, ⟨hlt, wa, c1, t2, rfl⟩ | ⟨hlt, rfl⟩⟩ hO
    all_goals (
      clear hO
      (try dsimp only [List.cons_append, List.nil_append] at N')
      (try dsimp only)
      (try k_fold)))
  refine' enterS [(Str.ofString "chain", .ref ca), (Str.ofString "at", .int i ti), (Str.ofString "named", .ref na), (Str.ofString "subject", .str S ts), (Str.ofString "pile", .ref pa), (Str.ofString "host", .ref hs)] ?k1 ?k2 ?k3 ?k4 ?k5 ?k6 ?k7 ?hb ?hs ?k8 ?k9 ?k10 ?k11 ?_ ?c1 ?c2 ?c3 ?c4
  k_extra "m enter"
  k_steps
  k_extra "m end"
  (case e3 => exact ⟨ra, rfl, .inl ⟨hlt, wa, c1, t2, rfl⟩⟩)
  (case e2 => k_extra "m out")
  k_extra "m end"
  (case e3 => exact ⟨ra, rfl, .inr ⟨hlt, rfl⟩⟩)
  (case e2 => k_extra "m out")
def EndNow (w : World) (S : Str) (i b : Int) (ti t1 tb : Tok) (rest : Value) (na en hs hd ra rd vd rl lg : Addr) (k1 k2 k3 k4 k5 k6 tl tw tn j1 j2 j3 u1 u3 : Tok) (n : Int) (key : Str) (rn ln : Nat) (lv : List Value) (kvs : List (Str × Value)) (D : List (PyData × PyData)) (r : Value) (post : Led) : Prop :=
  ∃ (xa : Addr) (od' : Obj) (da : Addr) (tx : Tok), r = .ref xa ∧ od'.IsDictOf (strKind PW w) (stored kvs key (.str (Txt.slice S (some b) (some i)) tx)) ∧ V.FlatPairs PyData.str (stored kvs key (.str (Txt.slice S (some b) (some i)) tx)) (PyProof.V.putD (.str key) (.str (Txt.slice S (some b) (some i))) D) ∧
    post = [(xa, tup [rest, .int i ti, .ref na]), (en, tup [.str (Str.ofString "end now") t1, .ref ra, .int b tb]), (hs, instObj 229 hd), (hd, hostD w k1 k2 k3 k4 k5 k6 vd rl lg tl tw n tn), (ra, instObj 138 rd), (rd, refD w j1 j2 j3 key u1 u3), (vd, od'), (rl, listOf #[] rn), (lg, listOf (lv ++ [Value.ref da]).toArray (ln + 1))]
theorem led_now {w : World} {lo : List Str} {mean mg mb} {S : Str} {ts : Tok} {i b : Int} {ti t1 tb : Tok} {en na pa : Addr} {rest : Value}
    {hs hd ra rd vd rl lg : Addr} {k1 k2 k3 k4 k5 k6 tl tw tn j1 j2 j3 u1 u3 : Tok} {n : Int} {key : Str} {od : Obj} {rn ln : Nat} {lv : List Value} {kvs : List (Str × Value)} {D : List (PyData × PyData)}
    (h3 : S.length < 200) (hd1 : od.IsDictOf (strKind PW w) kvs) (hd2 : V.FlatPairs PyData.str kvs D) (hd3 : (vd == sysModules) = false) (hd4 : PyProof.V.LenLe D 5) (hl : lv.length < 1000) (hk : key.length < 10)
    (n2 : @Ne Nat hd vd) (n4 : @Ne Nat rd vd) (n11 : @Ne Nat rl lg) :
    Spec w lo mean mg mb 555 1550 425 [.ref en, rest, .int i ti, .ref na, .str S ts, .ref pa, .ref hs] [(en, tup [.str (Str.ofString "end now") t1, .ref ra, .int b tb]), (hs, instObj 229 hd), (hd, hostD w k1 k2 k3 k4 k5 k6 vd rl lg tl tw n tn), (ra, instObj 138 rd), (rd, refD w j1 j2 j3 key u1 u3), (vd, od), (rl, listOf #[] rn), (lg, listOf lv.toArray ln)]
      (EndNow w S i b ti t1 tb rest na en hs hd ra rd vd rl lg k1 k2 k3 k4 k5 k6 tl tw tn j1 j2 j3 u1 u3 n key rn ln lv kvs D) := by
  intro gd frs base g s Q E B X T st sz N hret
  k_with "m call" => (
    refine' use_spec ?B ?F ?X ?T ?N ?hA ?hf ?hk ?hh ?hd ?hu (assign_spec hd1 hd2 hd3 hd4 hl hk ?px n2 n4 n11) ?tk ?off ?_
    k_extra "m use"
    (case px => omega)
    k_whole
    rintro r' h' tk' post' F' N' ⟨od', da, rfl, hq1, hq2, rfl⟩ hO
    clear hO
    (try dsimp only [List.cons_append, List.nil_append] at N')
    (try dsimp only)
    (try k_fold))
  refine' enterS [(Str.ofString "here", .ref en), (Str.ofString "rest", rest), (Str.ofString "at", .int i ti), (Str.ofString "named", .ref na), (Str.ofString "subject", .str S ts), (Str.ofString "pile", .ref pa), (Str.ofString "host", .ref hs)] ?k1 ?k2 ?k3 ?k4 ?k5 ?k6 ?k7 ?hb ?hs ?k8 ?k9 ?k10 ?k11 ?_ ?c1 ?c2 ?c3 ?c4
  k_extra "m enter"
  k_steps
  k_extra "m end"
  (case e3 => exact ⟨_, od', da, _, rfl, hq1, hq2, rfl⟩)
  (case e2 => k_extra "m out")
theorem adv_endnow {w : World} {lo : List Str} {mean mg mb} {S : Str} {ts : Tok} {i b : Int} {ti t1 tb : Tok} {ca en na pa : Addr} {rest : Value}
    {hs hd ra rd vd rl lg : Addr} {k1 k2 k3 k4 k5 k6 tl tw tn j1 j2 j3 u1 u3 : Tok} {n : Int} {key : Str} {od : Obj} {rn ln : Nat} {lv : List Value} {kvs : List (Str × Value)} {D : List (PyData × PyData)}
    (h3 : S.length < 200) (hd1 : od.IsDictOf (strKind PW w) kvs) (hd2 : V.FlatPairs PyData.str kvs D) (hd3 : (vd == sysModules) = false) (hd4 : PyProof.V.LenLe D 5) (hl : lv.length < 1000) (hk : key.length < 10)
    (n2 : @Ne Nat hd vd) (n4 : @Ne Nat rd vd) (n11 : @Ne Nat rl lg) :
    Spec w lo mean mg mb 550 1500 411 [.ref ca, .int i ti, .ref na, .str S ts, .ref pa, .ref hs] [(ca, tup [.ref en, rest]), (en, tup [.str (Str.ofString "end now") t1, .ref ra, .int b tb]), (hs, instObj 229 hd), (hd, hostD w k1 k2 k3 k4 k5 k6 vd rl lg tl tw n tn), (ra, instObj 138 rd), (rd, refD w j1 j2 j3 key u1 u3), (vd, od), (rl, listOf #[] rn), (lg, listOf lv.toArray ln)]
      (fun r post => ∃ (xa : Addr) (od' : Obj) (da : Addr) (tx : Tok), r = .ref xa ∧ od'.IsDictOf (strKind PW w) (stored kvs key (.str (Txt.slice S (some b) (some i)) tx)) ∧ V.FlatPairs PyData.str (stored kvs key (.str (Txt.slice S (some b) (some i)) tx)) (PyProof.V.putD (.str key) (.str (Txt.slice S (some b) (some i))) D) ∧
        post = [(xa, tup [rest, .int i ti, .ref na]), (ca, tup [.ref en, rest]), (en, tup [.str (Str.ofString "end now") t1, .ref ra, .int b tb]), (hs, instObj 229 hd), (hd, hostD w k1 k2 k3 k4 k5 k6 vd rl lg tl tw n tn), (ra, instObj 138 rd), (rd, refD w j1 j2 j3 key u1 u3), (vd, od'), (rl, listOf #[] rn), (lg, listOf (lv ++ [Value.ref da]).toArray (ln + 1))]) := by
  intro gd frs base g s Q E B X T st sz N hret
  k_with "m call" => (
    refine' use_spec ?B ?F ?X ?T ?N ?hA ?hf ?hk ?hh ?hd ?hu (led_now h3 hd1 hd2 hd3 hd4 hl hk n2 n4 n11) ?tk ?off ?_
    k_extra "m use"
    k_whole
    rintro r' h' tk' post' F' N' ⟨xa, od', da, tx, rfl, hq1, hq2, rfl⟩ hO
    clear hO
    (try dsimp only [List.cons_append, List.nil_append] at N')
    (try dsimp only)
    (try k_fold))
  refine' enterS [(Str.ofString "chain", .ref ca), (Str.ofString "at", .int i ti), (Str.ofString "named", .ref na), (Str.ofString "subject", .str S ts), (Str.ofString "pile", .ref pa), (Str.ofString "host", .ref hs)] ?k1 ?k2 ?k3 ?k4 ?k5 ?k6 ?k7 ?hb ?hs ?k8 ?k9 ?k10 ?k11 ?_ ?c1 ?c2 ?c3 ?c4
  k_extra "m enter"
  k_steps
  k_extra "m end"
  (case e3 => exact ⟨xa, od', da, tx, rfl, hq1, hq2, rfl⟩)
  (case e2 => k_extra "m out")
end

section
theorem regMBg : (fun (_ : OpenLaw) (_ : Params → Frag) => True) PySem.Challenge.rw_sj0197_01 KF := by
  k_with_none
  k_with "m enter" => (
    (case k1 => exact B); (case k2 => exact X); (case k3 => exact T); (case k4 => exact st); (case k5 => exact sz); (case k6 => exact N)
    (case k7 => k_dflt k_is)
    (case hb => (conv => lhs; whnf))
    (case hs => (conv => lhs; whnf))
    (case k8 => k_dflt k_is)
    (case k9 => decide)
    (case k10 => exact BindsTo.of_eq rfl)
    (case k11 => exact locs rfl)
    (case c1 => exact rfl); (case c2 => exact rfl); (case c3 => exact rfl); (case c4 => decide)
    clear st sz N
    intro L h F N'
    (try dsimp only)
    (try k_fold))
  k_with "m end" => ((try k_unfold); (try dsimp only); refine' hret _ _ _ ?e1 ?e2 ?e3 ?e4; (case e1 => exact Fr.keep (by k_asm)); (case e4 => k_extra "m kept"))
  k_with "m kept" => (first | exact kept_nil | (refine' kept_tup ?ka ?kb ?kc; (case ka => k_asm); (case kb => k_mem); (case kc => k_extra "m kept")) | (refine' kept_not ?kd ?ke ?kf; (case kd => k_extra "m cls"); (case ke => decide); (case kf => k_extra "m kept")))
  k_with "m sub" => (first | exact subNil | exact subRefl | (refine' subStep ?su; (case su => k_extra "m sub")) | (refine' subUpS ?sk ?su; (case sk => ((fail_if_success (refine skipOf ?_; k_mem)); exact trivial)); (case su => k_extra "m sub")) | (refine' subCons ?sa ?sb; (case sa => k_mem); (case sb => k_extra "m sub")))
  k_with "m same" => (
    intro z h2 h3
    simp only [List.forall_mem_cons, List.not_mem_nil, false_implies, implies_true, and_true, ne_eq] at h2
    simp [kstB, h2])
  k_with "m same2" => (
    intro z h2 h3
    dsimp only [isPs, psOf] at h2
    simp only [List.forall_mem_cons, List.not_mem_nil, false_implies, implies_true, and_true, ne_eq] at h2
    simp only [List.contains_cons, List.contains_nil, Bool.or_false, Bool.or_eq_false_iff, beq_eq_false_iff_ne, ne_eq] at h3
    simp [kstB, h2, h3])
  k_with "m same3" => (
    intro z h2 h3
    simp only [List.forall_mem_cons, List.not_mem_nil, false_implies, implies_true, and_true, ne_eq] at h2
    simp only [List.contains_cons, List.contains_nil, Bool.or_false, beq_eq_false_iff_ne, ne_eq] at h3
    simp [kstB, h2, h3])
  k_with "m same4" => (
    intro z h2 h3
    simp only [List.forall_mem_cons, List.not_mem_nil, false_implies, implies_true, and_true, ne_eq] at h2
    simp only [List.contains_cons, List.contains_nil, Bool.or_false, Bool.or_eq_false_iff, beq_eq_false_iff_ne, ne_eq] at h3
    simp [kstB, h2, h3])
  k_with "m led" => (dsimp only [isLed, osLed, fxL, vD, hD, List.cons_append, List.nil_append]; k_extra "m sub")
  k_with "m ps" => (dsimp only [isPs, psOf]; kst_all)
  k_with "m all" => exact newsOut (by k_asm)
  k_with "m outA" => exact newsSub (by k_asm) (subApp (by k_extra "m sub"))
  k_with "m out" => exact newsSub (by k_asm) (by k_extra "m sub")
  k_with "m t1" => (first | with_reducible exact Take1.head | (refine' Take1.tail ?mt; (case mt => k_extra "m t1")))
  k_with "m take" => (first | exact TakeL.nil | (refine' TakeL.cons ?ma ?mb; (case ma => k_extra "m t1"); (case mb => k_extra "m take")))
  k_with "m cls" => (first | assumption | exact dict_cls (by assumption) | (conv => lhs; whnf))
  k_with "m nocell" => exact rfl
  k_with "m ne" => (first | assumption | (refine Ne.symm ?_; assumption) | (refine' ne_cls ?na ?nb ?nc ?nd ?nf ?ng; (case na => k_asm); (case nb => k_mem); (case nc => k_mem); (case nd => k_extra "m cls"); (case nf => k_extra "m cls"); (case ng => decide)) | (refine' ne_cell ?na ?nb ?nc ?nd ?nf; (case na => k_asm); (case nb => k_mem); (case nc => k_mem); (case nd => assumption); (case nf => k_extra "m nocell")) | (refine Ne.symm ?_; refine' ne_cell ?na ?nb ?nc ?nd ?nf; (case na => k_asm); (case nb => k_mem); (case nc => k_mem); (case nd => assumption); (case nf => k_extra "m nocell")) | (refine neN ?_; (try dsimp only); omega))
  k_with "m ne1" => (first | exact ne1_nil | (refine' ne1_tup ?nt ?nu; (case nt => first | exact rfl | assumption); (case nu => k_extra "m ne1")) | (refine' ne1_cls ?n1 ?n2 ?n3 ?n4; (case n1 => k_extra "m cls"); (case n2 => k_extra "m cls"); (case n3 => decide); (case n4 => k_extra "m ne1")) | (refine' ne1_cell ?n1 ?n2 ?n4; (case n1 => assumption); (case n2 => k_extra "m nocell"); (case n4 => k_extra "m ne1")) | (refine' ne1_cons ?nv ?nw; (case nv => k_extra "m ne"); (case nw => k_extra "m ne1")))
  k_with "m off" => (first | exact off_nil | k_extra "m offop" | (refine' off_consT ?oc ?ob; (case oc => first | exact rfl | assumption); (case ob => k_extra "m off")) | (refine' off_cons ?oa ?ob; (case oa => k_extra "m ne1"); (case ob => k_extra "m off")))
  k_with "m use" => (
    (case hA => exact rfl); (case hf => exact rfl); (case hk => exact rfl); (case hh => exact rfl)
    (case B => k_asm); (case F => k_asm); (case X => k_asm); (case T => k_asm); (case N => k_asm)
    (case hd => exact Nat.le_of_ble_eq_true rfl); (case hu => exact Nat.le_of_ble_eq_true rfl)
    (case tk => k_extra "m take")
    (case off => k_extra "m off"))
  k_with "call ref" => (k_here; k_dflt (k_extra "m call"))
  k_with "compareOp NotIn str ref" => (k_here; k_dflt (refine' notin_tuple_strs ?k1 ?k2 ?_; (case k1 => exact tupK (by k_in) (by k_is)); (case k2 => kde_strs); k_whole))
  k_with "compareOp In str ref" => (k_here; k_dflt (refine' in_tuple_strs ?k1 ?k2 ?_; (case k1 => exact tupK (by k_in) (by k_is)); (case k2 => kde_strs); k_whole))
  k_with "setItem ref str" => (k_here; k_dflt (refine' setItem_K PyProof.V.same_str (strKind_is _ _ _ _) ?v ?F ?N ?U ?d ?f ?_ ?z; (case F => k_asm); (case N => k_asm); (case U => k_updF); (case d => k_asm); (case f => k_asm); (case z => exact line_of_lenLe (n := 5) (by assumption) (by decide)); (case v => k_flat)); intro h' o' F' N' hd' hf'; (try dsimp only at N'); (try k_sweep))
  k_with "compareOp Eq ref str" => (k_here; k_dflt (refine' eq_tup_str ?k1 ?k2 ?k3 ?_; (case k1 => k_asm); (case k2 => k_mem); (case k3 => exact Nat.le_of_ble_eq_true rfl); k_whole))
  k_with "CompSrc" => (k_here; k_dflt (k_extra "m src"))
  k_with "CompEnd" => (k_here; k_extra "m compend")
  k_with "call builtin:sorted" => (k_here; k_dflt (k_extra "m sorted"))
  k_with "compareOp NotEq str str" => (k_here; k_extra "m neq")
  k_with "compareOp Eq str str" => (k_here; k_extra "m eqs")
  k_with "call builtin:str.join" => (k_here; k_dflt (k_extra "m join"))
  k_with "eval Lambda" => (k_here; k_dflt (k_extra "m lam"))
  k_with "compareOp NotEq int int" => (k_here; k_dflt (k_extra "m neqi"))
  k_with "compareOp NotEq ref ref" => (k_here; k_dflt (k_extra "m neqt"))
  k_with "call builtin:len" => (k_here; k_dflt (k_extra "m len"))
  k_with "binaryOp Add ref ref" => (k_here; k_dflt (k_extra "m addl"))
  k_with "eval ListComp" => (k_here; k_extra "m comp")
  k_with "subscriptTail" => (k_here; k_dflt (k_extra "m item"))
  k_with "execs cons" => (k_here; k_extra "m stmt")
  trivial
theorem upC {M : Model} {A : Around} {c : Code} {R : Result → Shared → Prop} {s : Shared} {d u : Nat} {frs : List Env} (hh : A.handled = none) (hf : A.frames = some frs) (hd : A.depth ≤ d) (hu : A.units ≤ u)
    (h : codeAny M (ARD d u A.guards frs) c R s) : codeAny M A c R s := fun Γ p hc hΓ =>
  h Γ p hc ⟨hΓ.1.trans hh, Nat.le_trans hΓ.2.1 hd, fun l hl => hΓ.2.2.1 l (hf.trans hl), hΓ.2.2.2.1, Nat.le_trans hΓ.2.2.2.2 hu⟩
def SpecC (w : World) (lo : List Str) (mean : ExcName → Option Value) (mg mb : Str → Option Value) (d u : Nat) (f : Addr) (args : List Value) (pre : Led) (Post : Value → Led → Prop) : Prop :=
  ∀ (gd : Option (List Code)) (frs : List Env) (base g : Heap) (s : Shared) (Q E : Value → Shared → Prop),
    Below (ARD d u gd frs) base frs g → (KF w.params).In g → Top topProg lo mean mg mb g → g.StaysIn s.heap → g.objs.size ≤ s.heap.objs.size →
    (∀ p ∈ pre, s.heap.get? p.1 = some p.2 ∧ g.get? p.1 = none) →
    (∀ r h' tk' {post : Led}, g.StaysIn h' → (∀ p ∈ post, h'.get? p.1 = some p.2 ∧ g.get? p.1 = none) → Post r post → Kept h' pre → Q r { s with heap := h', toks := tk' }) →
    codeAny (model PW w) (ARD d u gd frs) (.call (.ref f) ⟨args, []⟩) (fun r s' => match r with | .ok (.ret v) => Q v s' | .ok _ => False | .error e => E e s') s
theorem SpecC.spec {w : World} {lo : List Str} {mean : ExcName → Option Value} {mg mb : Str → Option Value} {d u : Nat} {f : Addr} {args : List Value} {pre : Led} {Post : Value → Led → Prop} (h : SpecC w lo mean mg mb d u f args pre Post) : Spec w lo mean mg mb d u f args pre Post :=
  fun gd frs base g s Q E a b c e f i j => wpAny_call (h gd frs base g s Q E a b c e f i j)
theorem use_specC {w : World} {lo : List Str} {mean : ExcName → Option Value} {mg mb : Str → Option Value} {d u : Nat} {f : Addr} {args : List Value} {pre rest news : Led} {Post : Value → Led → Prop}
    {A A₀ : Around} {base h₀ : Heap} {outer : List Env} {env : Env} {L : Addr} {m : Str → Option Value} {s : Shared} {Q E : Value → Shared → Prop}
    (B : Below A₀ base outer h₀) (F : Fr h₀ L s.heap m) (X : (KF w.params).In h₀) (T : Top topProg lo mean mg mb h₀) (N : News h₀ L s.heap news)
    (hA : A.frames = some (env :: outer)) (hf : env.frame = some L) (hk : env.scope.kind = .function) (hh : A.handled = none) (hd : A.depth ≤ d) (hu : A.units ≤ u)
    (S : SpecC w lo mean mg mb d u f args pre Post) (tk : TakeL pre news rest) (off : Off rest pre)
    (ret : ∀ r h' tk' post, Fr h₀ L h' m → News h₀ L h' (post ++ rest) → Post r post → (∀ p ∈ rest, ∀ q ∈ post, q.2.cls ≠ TUP → p.1 ≠ q.1) → Q r { s with heap := h', toks := tk' }) :
    codeAny (model PW w) A (.call (.ref f) ⟨args, []⟩) (fun r s' => match r with | .ok (.ret v) => Q v s' | .ok _ => False | .error e => E e s') s := by
  have Np : News h₀ L s.heap pre := fun p hp => N p (tk.mem p hp)
  obtain ⟨FG, BG, st, _⟩ := groundX (R := fun _ _ => True) B F Np hA hf hk
  refine upC hh hA hd hu (S _ _ _ _ _ _ _ ⟨rfl, BG.stays, BG.frames⟩ (X.keeps st) (T.keeps st) (fun b o e => of_hideAll _ e) (Nat.le_of_eq (hideAll_size _ _))
    (fun p hp => ⟨(Np p hp).1, hideAll_none _ (List.mem_map_of_mem hp)⟩) fun r h' tk' {post} hst hpost hP hkept => ?_)
  obtain ⟨oL, es, ep, hL, hLd, hLk, hLf⟩ := FG.ns
  have hrest : ∀ p ∈ rest, (∃ q ∈ pre, q.2.cls = TUP ∧ q.1 = p.1 ∧ q.2 = p.2) ∨ (hideAll s.heap (pre.map (·.1))).get? p.1 = some p.2 := fun p hp => by
    by_cases hm : p.1 ∈ pre.map (·.1)
    · obtain ⟨q, hq, e⟩ := List.mem_map.mp hm
      have a := (Np q hq).1
      rw [e, (N p (tk.sub p hp)).1] at a
      have a := Option.some.inj a
      rcases off p hp q hq with h | h | h
      · exact .inl ⟨q, hq, h, e, a.symm⟩
      · exact absurd a h
      · exact absurd e.symm h
    · exact .inr (hideAll_get _ (N p (tk.sub p hp)).1 hm)
  have hrest' : ∀ p ∈ rest, h'.get? p.1 = some p.2 := fun p hp => by
    rcases hrest p hp with ⟨q, hq, h1, h2, h3⟩ | h
    · rw [← h2, ← h3]; exact hkept q hq h1
    · exact hst _ _ h
  refine ret r h' tk' post ⟨⟨oL, es, ep, hst L oL hL, hLd, hLk, hLf⟩, fun b o e => hst b o (FG.keep b o e), FG.above⟩ (fun p hp => ?_) hP fun p hp q hq hc e => ?_
  · rcases List.mem_append.mp hp with hp | hp
    · refine ⟨(hpost p hp).1, fun q => ?_, ?_⟩
      · have := (hpost p hp).2
        rw [q, hL] at this; cases this
      · cases q : h₀.get? p.1 with
        | none => rfl
        | some o => have := (hpost p hp).2; rw [st _ _ q] at this; cases this
    · exact ⟨hrest' p hp, (N p (tk.sub p hp)).2⟩
  · rcases hrest p hp with ⟨q', hq', h1, h2, h3⟩ | h
    · have a := hkept q' hq' h1
      rw [h2, e, (hpost q hq).1] at a
      exact hc (Option.some.inj a ▸ h1)
    · have := (hpost q hq).2
      rw [← e, h] at this; cases this

theorem enterC {w : World} {lo : List Str} {mean : ExcName → Option Value} {mg mb : Str → Option Value} {d u : Nat} {gd : Option (List Code)} {frs : List Env} {base g : Heap} {s : Shared} {pre : Led} {Q E : Value → Shared → Prop}
    {name qual : Str} {params : Arguments} {body body₀ : List Stmt} {scope scope₀ : Scope} {dV kV doc pm cdv ct oc : Value} {an od : Option Addr} {osl : Array (Option Value)} {f : Addr} {args : List Value} (binds : List (Str × Value))
    (B : Below (ARD d u gd frs) base frs g) (X : (KF w.params).In g) (T : Top topProg lo mean mg mb g) (st : g.StaysIn s.heap) (sz : g.objs.size ≤ s.heap.objs.size)
    (N : ∀ p ∈ pre, s.heap.get? p.1 = some p.2 ∧ g.get? p.1 = none)
    (ho : (KF w.params).lookup f = some ⟨oc, od, .func (fnOf name qual params body₀ scope₀ dV kV doc pm an cdv ct), osl⟩) (hb₀ : body₀ = body) (hs₀ : scope₀ = scope) (hcd : codeIn (KF w.params) cdv qual = true) (hroom : d < recursionLimit)
    (hbind : BindsTo s (fnOf name qual params body₀ scope₀ dV kV doc pm an cdv ct) ⟨args, []⟩ binds) (hloc : ∀ y ∈ binds, scope.names.lookup y.1 = some .local)
    (h : ∀ L' h₁, Fr g L' h₁ (fun y => binds.reverse.lookup y) → News g L' h₁ pre →
      wpAny (model PW w) ((ARD d u gd frs).deeper (envOf qual scope L' f cdv)) (execs body (envOf qual scope L' f cdv))
        (fun fl s' => Q (match fl with | .ret v => v | _ => .none) s')
        (fun e s' => wpAny (model PW w) ((ARD d u gd frs).deeper (envOf qual scope L' f cdv)) (leaving (envOf qual scope L' f cdv) e) (fun _ s'' => E e s'') (fun e' s'' => E e' s'') s')
        { s with heap := h₁, toks := s.toks + binds.length })
    (hco : scope.isCoroutine = false) (hgen : scope.isGenerator = false) (hk : scope.kind = .function) (hcell : ∀ x ∈ scope.names, x.2 ≠ .cell) :
    codeAny (model PW w) (ARD d u gd frs) (.call (.ref f) ⟨args, []⟩) (fun r s' => match r with | .ok (.ret v) => Q v s' | .ok _ => False | .error e => E e s') s := by
  cases hb₀
  cases hs₀
  refine codeAny_call_def (binds := binds) hroom ((X.keeps st) _ _ ho) rfl (T.nolimit.keeps st) (codeRec_of (X.keeps st) hcd) rfl hbind hcell hloc (fun h₁ hns hk₁ => ?_) hco hgen hk
  exact h _ h₁ ⟨hns, fun b o e => hk₁ b o (st b o e), sz⟩ fun p hp => ⟨hk₁ _ _ (N p hp).1, Nat.ne_of_lt (Heap.lt_size (N p hp).1), (N p hp).2⟩
theorem assign_code {w : World} {lo : List Str} {mean mg mb} {hs hd ra rd vd rl lg : Addr} {k1 k2 k3 k4 k5 k6 tl tw tn j1 j2 j3 u1 u3 tx : Tok} {n : Int} {key x : Str} {od : Obj} {rn ln : Nat} {lv : List Value} {kvs : List (Str × Value)} {D : List (PyData × PyData)}
    (hd1 : od.IsDictOf (strKind PW w) kvs) (hd2 : V.FlatPairs PyData.str kvs D) (hd3 : (vd == sysModules) = false) (hd4 : PyProof.V.LenLe D 5) (hl : lv.length < 1000) (hk : key.length < 10) (hx : x.length < 1000)
    (n2 : @Ne Nat hd vd) (n4 : @Ne Nat rd vd) (n11 : @Ne Nat rl lg) :
    SpecC w lo mean mg mb 560 1600 219 [.ref hs, .ref ra, .str x tx] [(hs, instObj 229 hd), (hd, hostD w k1 k2 k3 k4 k5 k6 vd rl lg tl tw n tn), (ra, instObj 138 rd), (rd, refD w j1 j2 j3 key u1 u3), (vd, od), (rl, listOf #[] rn), (lg, listOf lv.toArray ln)]
      (fun r post => ∃ (od' : Obj) (da : Addr), r = .bool true ∧ od'.IsDictOf (strKind PW w) (stored kvs key (.str x tx)) ∧ V.FlatPairs PyData.str (stored kvs key (.str x tx)) (PyProof.V.putD (.str key) (.str x) D) ∧ post = [(da, tup [.str key u3, .str x tx]), (hs, instObj 229 hd), (hd, hostD w k1 k2 k3 k4 k5 k6 vd rl lg tl tw n tn), (ra, instObj 138 rd), (rd, refD w j1 j2 j3 key u1 u3), (vd, od'), (rl, listOf #[] rn), (lg, listOf (lv ++ [Value.ref da]).toArray (ln + 1))]) := by
  intro gd frs base g s Q E B X T st sz N hret
  refine' enterC [(Str.ofString "self", .ref hs), (Str.ofString "ref", .ref ra), (Str.ofString "value", .str x tx)] ?k1 ?k2 ?k3 ?k4 ?k5 ?k6 ?k7 ?hb ?hs ?k8 ?k9 ?k10 ?k11 ?_ ?c1 ?c2 ?c3 ?c4
  k_extra "m enter"
  k_steps
  · exact absurd (by assumption : ([].any _) = true) (by simp)
  · k_extra "m end"
    (case e2 => k_extra "m all")
    (case e3 => exact ⟨_, _, rfl, by assumption, by assumption, by rw [← List.push_toArray]⟩)
theorem give_spec {w : World} {lo : List Str} {mean mg mb} {fo la pr q hs hd ra rd vd rl lg : Addr} {k1 k2 k3 k4 k5 k6 tl tw tn j1 j2 j3 u1 u3 tx tb te : Tok} {n b e : Int} {key x : Str} {od : Obj} {rn ln kl : Nat} {lv : List Value} {kvs : List (Str × Value)} {D : List (PyData × PyData)}
    (hd1 : od.IsDictOf (strKind PW w) kvs) (hd2 : V.FlatPairs PyData.str kvs D) (hd3 : (vd == sysModules) = false) (hd4 : PyProof.V.LenLe D 5) (hl : lv.length < 1000) (hk : key.length < 10) (hx : x.length < 1000)
    (n2 : @Ne Nat hd vd) (n4 : @Ne Nat rd vd) (n11 : @Ne Nat rl lg) (n12 : @Ne Nat la lg) (n13 : @Ne Nat la rl) :
    Spec w lo mean mg mb 550 1500 21 [.ref fo, .ref q] [(fo, tup [.int b tb, .int e te, .ref la]), (la, listOf [Value.ref pr].toArray kl), (pr, tup [.ref ra, .str x tx]), (q, methodObj (.ref 219) (.ref hs)), (hs, instObj 229 hd), (hd, hostD w k1 k2 k3 k4 k5 k6 vd rl lg tl tw n tn), (ra, instObj 138 rd), (rd, refD w j1 j2 j3 key u1 u3), (vd, od), (rl, listOf #[] rn), (lg, listOf lv.toArray ln)]
      (fun r post => ∃ (od' : Obj) (da : Addr), r = .none ∧ od'.IsDictOf (strKind PW w) (stored kvs key (.str x tx)) ∧ V.FlatPairs PyData.str (stored kvs key (.str x tx)) (PyProof.V.putD (.str key) (.str x) D) ∧ post = [(hs, instObj 229 hd), (hd, hostD w k1 k2 k3 k4 k5 k6 vd rl lg tl tw n tn), (ra, instObj 138 rd), (rd, refD w j1 j2 j3 key u1 u3), (vd, od'), (rl, listOf #[] rn), (lg, listOf (lv ++ [Value.ref da]).toArray (ln + 1)), (fo, tup [.int b tb, .int e te, .ref la]), (la, listOf [Value.ref pr].toArray kl), (pr, tup [.ref ra, .str x tx])]) := by
  intro gd frs base g s Q E B X T st sz N hret
  k_with "exec For Tuple Subscript cons nil" => (refine' For_turns ?lF ?_ ?hs ?hE; (case lF => k_asm); (case hs => exact fun _ => rfl); (case hE => (try k_unfold); (try dsimp only); with_unfolding_all passes_own); k_whole)
  k_with "m call" => (
    refine' call_meth ?N ?q ?_
    (case N => k_asm)
    (case q => k_mem)
    refine' use_specC ?B ?F ?X ?T ?N ?hA ?hf ?hk ?hh ?hd ?hu (assign_code hd1 hd2 hd3 hd4 hl hk hx n2 n4 n11) ?tk ?off ?_
    k_extra "m use"
    k_whole
    rintro _ h' tk' _ F' N' ⟨od', da, rfl, hq1, hq2, rfl⟩ hO
    clear hO
    (try dsimp only [List.cons_append, List.nil_append] at N')
    (try dsimp only)
    (try k_fold))
  refine' enterS [(Str.ofString "found", .ref fo), (Str.ofString "give", .ref q)] ?k1 ?k2 ?k3 ?k4 ?k5 ?k6 ?k7 ?hb ?hs ?k8 ?k9 ?k10 ?k11 ?_ ?c1 ?c2 ?c3 ?c4
  k_extra "m enter"
  k_steps
  k_extra "m end"
  (case e3 => exact ⟨od', da, rfl, hq1, hq2, rfl⟩)
  (case e2 => k_extra "m out")
end

section
theorem regMBn : (fun (_ : OpenLaw) (_ : Params → Frag) => True) PySem.Challenge.rw_sj0197_01 KF := by
  k_with_none
  k_with "m enter" => (
    (case k1 => exact B); (case k2 => exact X); (case k3 => exact T); (case k4 => exact st); (case k5 => exact sz); (case k6 => exact N)
    (case k7 => k_dflt k_is)
    (case hb => (conv => lhs; whnf))
    (case hs => (conv => lhs; whnf))
    (case k8 => k_dflt k_is)
    (case k9 => decide)
    (case k10 => exact BindsTo.of_eq rfl)
    (case k11 => exact locs rfl)
    (case c1 => exact rfl); (case c2 => exact rfl); (case c3 => exact rfl); (case c4 => decide)
    clear st sz N
    intro L h F N'
    (try dsimp only)
    (try k_fold))
  k_with "m end" => ((try k_unfold); (try dsimp only); refine' hret _ _ _ ?e1 ?e2 ?e3 ?e4; (case e1 => exact Fr.keep (by k_asm)); (case e4 => k_extra "m kept"))
  k_with "m kept" => (first | exact kept_nil | (refine' kept_tup ?ka ?kb ?kc; (case ka => k_asm); (case kb => k_mem); (case kc => k_extra "m kept")) | (refine' kept_not ?kd ?ke ?kf; (case kd => k_extra "m cls"); (case ke => decide); (case kf => k_extra "m kept")))
  k_with "m sub" => (first | exact subNil | exact subRefl | (refine' subStep ?su; (case su => k_extra "m sub")) | (refine' subUpS ?sk ?su; (case sk => ((fail_if_success (refine skipOf ?_; k_mem)); exact trivial)); (case su => k_extra "m sub")) | (refine' subCons ?sa ?sb; (case sa => k_mem); (case sb => k_extra "m sub")))
  k_with "m same" => (
    intro z h2 h3
    simp only [List.forall_mem_cons, List.not_mem_nil, false_implies, implies_true, and_true, ne_eq] at h2
    simp [kstB, h2])
  k_with "m same2" => (
    intro z h2 h3
    dsimp only [isPs, psOf] at h2
    simp only [List.forall_mem_cons, List.not_mem_nil, false_implies, implies_true, and_true, ne_eq] at h2
    simp only [List.contains_cons, List.contains_nil, Bool.or_false, Bool.or_eq_false_iff, beq_eq_false_iff_ne, ne_eq] at h3
    simp [kstB, h2, h3])
  k_with "m same3" => (
    intro z h2 h3
    simp only [List.forall_mem_cons, List.not_mem_nil, false_implies, implies_true, and_true, ne_eq] at h2
    simp only [List.contains_cons, List.contains_nil, Bool.or_false, beq_eq_false_iff_ne, ne_eq] at h3
    simp [kstB, h2, h3])
  k_with "m same4" => (
    intro z h2 h3
    simp only [List.forall_mem_cons, List.not_mem_nil, false_implies, implies_true, and_true, ne_eq] at h2
    simp only [List.contains_cons, List.contains_nil, Bool.or_false, Bool.or_eq_false_iff, beq_eq_false_iff_ne, ne_eq] at h3
    simp [kstB, h2, h3])
  k_with "m led" => (dsimp only [isLed, osLed, fxL, vD, hD, List.cons_append, List.nil_append]; k_extra "m sub")
  k_with "m ps" => (dsimp only [isPs, psOf]; kst_all)
  k_with "m all" => exact newsOut (by k_asm)
  k_with "m outA" => exact newsSub (by k_asm) (subApp (by k_extra "m sub"))
  k_with "m out" => exact newsSub (by k_asm) (by k_extra "m sub")
  k_with "m t1" => (first | with_reducible exact Take1.head | (refine' Take1.tail ?mt; (case mt => k_extra "m t1")))
  k_with "m take" => (first | exact TakeL.nil | (refine' TakeL.cons ?ma ?mb; (case ma => k_extra "m t1"); (case mb => k_extra "m take")))
  k_with "m cls" => (first | assumption | exact dict_cls (by assumption) | (conv => lhs; whnf))
  k_with "m nocell" => exact rfl
  k_with "m ne" => (first | assumption | (refine Ne.symm ?_; assumption) | (refine' ne_cls ?na ?nb ?nc ?nd ?nf ?ng; (case na => k_asm); (case nb => k_mem); (case nc => k_mem); (case nd => k_extra "m cls"); (case nf => k_extra "m cls"); (case ng => decide)) | (refine' ne_cell ?na ?nb ?nc ?nd ?nf; (case na => k_asm); (case nb => k_mem); (case nc => k_mem); (case nd => assumption); (case nf => k_extra "m nocell")) | (refine Ne.symm ?_; refine' ne_cell ?na ?nb ?nc ?nd ?nf; (case na => k_asm); (case nb => k_mem); (case nc => k_mem); (case nd => assumption); (case nf => k_extra "m nocell")) | (refine neN ?_; (try dsimp only); omega))
  k_with "m ne1" => (first | exact ne1_nil | (refine' ne1_tup ?nt ?nu; (case nt => first | exact rfl | assumption); (case nu => k_extra "m ne1")) | (refine' ne1_cls ?n1 ?n2 ?n3 ?n4; (case n1 => k_extra "m cls"); (case n2 => k_extra "m cls"); (case n3 => decide); (case n4 => k_extra "m ne1")) | (refine' ne1_cell ?n1 ?n2 ?n4; (case n1 => assumption); (case n2 => k_extra "m nocell"); (case n4 => k_extra "m ne1")) | (refine' ne1_cons ?nv ?nw; (case nv => k_extra "m ne"); (case nw => k_extra "m ne1")))
  k_with "m off" => (first | exact off_nil | k_extra "m offop" | (refine' off_consT ?oc ?ob; (case oc => first | exact rfl | assumption); (case ob => k_extra "m off")) | (refine' off_cons ?oa ?ob; (case oa => k_extra "m ne1"); (case ob => k_extra "m off")))
  k_with "m use" => (
    (case hA => exact rfl); (case hf => exact rfl); (case hk => exact rfl); (case hh => exact rfl)
    (case B => k_asm); (case F => k_asm); (case X => k_asm); (case T => k_asm); (case N => k_asm)
    (case hd => exact Nat.le_of_ble_eq_true rfl); (case hu => exact Nat.le_of_ble_eq_true rfl)
    (case tk => k_extra "m take")
    (case off => k_extra "m off"))
  k_with "call ref" => (k_here; k_dflt (k_extra "m call"))
  k_with "compareOp NotIn str ref" => (k_here; k_dflt (refine' notin_tuple_strs ?k1 ?k2 ?_; (case k1 => exact tupK (by k_in) (by k_is)); (case k2 => kde_strs); k_whole))
  k_with "compareOp In str ref" => (k_here; k_dflt (refine' in_tuple_strs ?k1 ?k2 ?_; (case k1 => exact tupK (by k_in) (by k_is)); (case k2 => kde_strs); k_whole))
  k_with "setItem ref str" => (k_here; k_dflt (refine' setItem_K PyProof.V.same_str (strKind_is _ _ _ _) ?v ?F ?N ?U ?d ?f ?_ ?z; (case F => k_asm); (case N => k_asm); (case U => k_updF); (case d => k_asm); (case f => k_asm); (case z => exact line_of_lenLe (n := 5) (by assumption) (by decide)); (case v => k_flat)); intro h' o' F' N' hd' hf'; (try dsimp only at N'); (try k_sweep))
  k_with "compareOp Eq ref str" => (k_here; k_dflt (refine' eq_tup_str ?k1 ?k2 ?k3 ?_; (case k1 => k_asm); (case k2 => k_mem); (case k3 => exact Nat.le_of_ble_eq_true rfl); k_whole))
  k_with "CompSrc" => (k_here; k_dflt (k_extra "m src"))
  k_with "CompEnd" => (k_here; k_extra "m compend")
  k_with "call builtin:sorted" => (k_here; k_dflt (k_extra "m sorted"))
  k_with "compareOp NotEq str str" => (k_here; k_extra "m neq")
  k_with "compareOp Eq str str" => (k_here; k_extra "m eqs")
  k_with "call builtin:str.join" => (k_here; k_dflt (k_extra "m join"))
  k_with "eval Lambda" => (k_here; k_dflt (k_extra "m lam"))
  k_with "compareOp NotEq int int" => (k_here; k_dflt (k_extra "m neqi"))
  k_with "compareOp NotEq ref ref" => (k_here; k_dflt (k_extra "m neqt"))
  k_with "call builtin:len" => (k_here; k_dflt (k_extra "m len"))
  k_with "binaryOp Add ref ref" => (k_here; k_dflt (k_extra "m addl"))
  k_with "eval ListComp" => (k_here; k_extra "m comp")
  k_with "subscriptTail" => (k_here; k_dflt (k_extra "m item"))
  k_with "execs cons" => (k_here; k_extra "m stmt")
  trivial
noncomputable abbrev lawEnv (L fn0 : Addr) : Env := envOfC (Str.ofString "law") (scoOf (stAt 64)) L fn0 (.ref 476)
variable {fn0 : Addr}
theorem allLtNe {d : Addr} {l : Led} (h : AllLt d l) : ∀ p ∈ l, p.1 ≠ d := by
  induction l with
  | nil => intro p hp; cases hp
  | cons a r ih =>
    have h1 : @LT.lt Nat _ a.1 d ∧ AllLt d r := h
    intro p hp
    cases hp with
    | head => exact Nat.ne_of_lt h1.1
    | tail _ hp => exact ih h1.2 p hp
theorem allLtLt {d : Addr} {l : Led} (h : AllLt d l) : ∀ p ∈ l, p.1 < d := by
  induction l with
  | nil => intro p hp; cases hp
  | cons a r ih =>
    have h1 : @LT.lt Nat _ a.1 d ∧ AllLt d r := h
    intro p hp
    cases hp with
    | head => exact h1.1
    | tail _ hp => exact ih h1.2 p hp
theorem ne_of_all {l : Led} {a d : Addr} {o : Obj} (h : ∀ p ∈ l, p.1 < d) (hm : (a, o) ∈ l) : @Ne Nat a d := Nat.ne_of_lt (h _ hm)
theorem new_ref {w : World} {lo : List Str} {mean mg mb} {base g : Heap} {L : Addr} {m : Str → Option Value} {s : Shared} {news : Led} {Q : Value → Shared → Prop} {E : Value → Shared → Prop} {key : Str} {u1 u3 : Tok}
    (B : Below callerA base [] g) (X : (KF w.params).In g) (T : Top topProg lo mean mg mb g) (F : Fr g L s.heap m) (N : News g L s.heap news)
    (hQ : ∀ x dx h' tk' j1 j2 j3, Fr g L h' m → News g L h' ((x, instObj 138 dx) :: (dx, refD w j1 j2 j3 key u1 u3) :: news) → (∀ p ∈ news, p.1 < dx) → (∀ p ∈ news, p.1 < x) → Q (.ref x) { s with heap := h', toks := tk' }) :
    wpAny (model PW w) (callerA.deeper (lawEnv L fn0)) (call (.ref 138) [.str (Str.ofString "var") u1, .none, .str key u3]) Q E s := by
  unfold lawEnv
  generalize hs : scoOf (stAt 64) = sc
  (conv at hs => lhs; whnf)
  subst hs
  (try dsimp only)
  (try k_fold)
  k_with "m kall" => exact allLtNe (by assumption)
  k_steps
  exact hQ _ _ _ _ _ _ _ (by k_asm) (by k_asm) (by assumption) (fun p hp => Nat.lt_trans ((by assumption : ∀ p ∈ news, p.1 < _) p hp) (by assumption))
theorem new_host {w : World} {lo : List Str} {mean mg mb} {base g : Heap} {L : Addr} {m : Str → Option Value} {s : Shared} {news : Led} {Q : Value → Shared → Prop} {E : Value → Shared → Prop} {vd rl : Addr} {tl : Tok}
    (B : Below callerA base [] g) (X : (KF w.params).In g) (T : Top topProg lo mean mg mb g) (F : Fr g L s.heap m) (N : News g L s.heap news)
    (hQ : ∀ x dx lg h' tk' k1 k2 k3 k4 k5 k6 tw tn, Fr g L h' m → News g L h' ((lg, listOf ([] : List Value).toArray 0) :: (x, instObj 229 dx) :: (dx, hostD w k1 k2 k3 k4 k5 k6 vd rl lg tl tw 0 tn) :: news) → (∀ p ∈ news, p.1 < dx) → (∀ p ∈ news, p.1 < x) → (∀ p ∈ news, p.1 < lg) → Q (.ref x) { s with heap := h', toks := tk' }) :
    wpAny (model PW w) (callerA.deeper (lawEnv L fn0)) (call (.ref 229) [.ref vd, .int 999 tl, .ref rl]) Q E s := by
  unfold lawEnv
  generalize hs : scoOf (stAt 64) = sc
  (conv at hs => lhs; whnf)
  subst hs
  (try dsimp only)
  (try k_fold)
  k_with "m kall" => exact allLtNe (by first | assumption | exact And.right (by assumption) | exact And.right (And.right (by assumption)))
  k_steps
  exact hQ _ _ _ _ _ _ _ _ _ _ _ _ _ (by k_asm) (by k_asm) (by assumption) (fun p hp => Nat.lt_trans ((by assumption : ∀ p ∈ news, p.1 < _) p hp) (by assumption)) (allLtLt (And.right (And.right (by assumption))))
end

section
open PySem PySem.W PySem.Calls PyProof PyProof.Rows PySem.Spec
abbrev cs (x : Str) : List Nat := x.cps.toList
theorem str_ext {x y : Str} (h : cs x = cs y) : x = y := by
  cases x; cases y
  simp only [cs] at h
  congr
  exact Array.toList_inj.mp h
theorem cs_len (x : Str) : (cs x).length = x.length := by simp [cs, Str.length]
theorem cs_slice {x : Str} {i j : Int} (h0 : 0 ≤ i) (h1 : i ≤ j) (h2 : j ≤ x.length) : cs (Txt.slice x (some i) (some j)) = ((cs x).drop i.toNat).take (j - i).toNat := by
  have := slice_closes (x := x) (i := i) (j := j) ⟨h0, h1, by rw [← cs_len] at h2; exact h2⟩
  rw [eq_of_beq this]
theorem cs_slice_to {x : Str} {j : Int} (h0 : 0 ≤ j) (h2 : j ≤ x.length) : cs (Txt.slice x none (some j)) = (cs x).take j.toNat := by
  have := slice_closes_to (x := x) (j := j) ⟨h0, by rw [← cs_len] at h2; exact h2⟩
  rw [eq_of_beq this]
  simp [cs]
theorem cs_slice_from {x : Str} {i : Int} (h0 : 0 ≤ i) (h2 : i ≤ x.length) : cs (Txt.slice x (some i) none) = (cs x).drop i.toNat := by
  have := slice_closes_from (x := x) (i := i) ⟨h0, by rw [← cs_len] at h2; exact h2⟩
  rw [eq_of_beq this]
  simp only [cs]
  rw [List.take_of_length_le]
  rw [List.length_drop]
  omega
theorem cs_append (x y : Str) : cs (x ++ y) = cs x ++ cs y := by
  have := Str.cps_append x y
  simp [cs, this]
theorem slice_over {x : Str} {i : Option Int} {j : Int} (hj : x.length ≤ j) : Txt.slice x i (some j) = Txt.slice x i none := by
  have e : PySem.Builtin.Str.strSliceIndices i (some j) 1 x.length = PySem.Builtin.Str.strSliceIndices i none 1 x.length := by
    unfold PySem.Builtin.Str.strSliceIndices
    have h0 : ¬ j < 0 := by omega
    have h1 : min j (x.length : Int) = x.length := by omega
    have h2 : max 0 (x.length : Int) = x.length := by omega
    simp only [h0, if_false, h1, h2, show (1 : Int) > 0 by decide, if_true]
  unfold Txt.slice
  rw [e]
theorem leafEnd_le {S : Str} {i e : Int} {lf : Leaf} (h0 : 0 ≤ i) (h1 : i ≤ S.length) (hk : lf.ok) (h : leafEnd S i lf = some e) : i ≤ e ∧ e ≤ S.length := by
  cases lf with
  | len n =>
    simp only [leafEnd] at h
    split at h
    · have := hk.1; cases h; omega
    · cases h
  | span G =>
    simp only [leafEnd] at h
    split at h
    · cases h; exact runE_le h1
    · cases h
  | brk G =>
    simp only [leafEnd] at h
    split at h
    · cases h; exact runE_le h1
    · cases h
  | chars G =>
    simp only [leafEnd] at h
    split at h
    · rename_i q
      cases h
      refine ⟨by omega, ?_⟩
      rcases Int.lt_or_le (S.length : Int) (i + G.length) with hl | hl
      · rw [slice_over (by omega)] at q
        have q := congrArg (fun x => (cs x).length) (eq_of_beq q)
        simp only [cs_slice_from h0 h1, List.length_drop, cs_len] at q
        omega
      · exact hl
    · cases h
  | rem => simp only [leafEnd] at h; cases h; omega
  | arb => simp only [leafEnd] at h; cases h; omega
end

section
open PySem PySem.W PySem.Calls PyProof PyProof.Rows PySem.Spec
abbrev splT (S Y : Str) (b e : Int) : Str := Txt.slice S none (some b) ++ Y ++ Txt.slice S (some e) none
theorem cs_spl {S Y : Str} {b e : Int} (h0 : 0 ≤ b) (h1 : b ≤ e) (h2 : e ≤ S.length) : cs (splT S Y b e) = (cs S).take b.toNat ++ cs Y ++ (cs S).drop e.toNat := by
  rw [cs_append, cs_append, cs_slice_to h0 (by omega), cs_slice_from (by omega) h2]
theorem spl_len (S Y : Str) (b e : Int) : (splT S Y b e).length ≤ 2 * S.length + Y.length := by
  have h1 := Txt.length_slice_le S none (some b)
  have h2 := Txt.length_slice_le S (some e) none
  rw [Str.length_append, Str.length_append]
  omega
/-- a place parts a text -/
theorem cutI {X : List Nat} {a : Int} (h0 : 0 ≤ a) (h1 : a ≤ X.length) : ∃ P R, X = P ++ R ∧ a = (P.length : Int) :=
  ⟨X.take a.toNat, X.drop a.toNat, (List.take_append_drop _ X).symm, by rw [List.length_take, Nat.min_eq_left (Int.toNat_le.mpr h1), Int.toNat_of_nonneg h0]⟩
theorem cs_splN {S Y : Str} {P M R : List Nat} {b e : Int} (h : cs S = P ++ (M ++ R)) (hb : b = P.length) (he : e = (P.length : Int) + M.length) : cs (splT S Y b e) = P ++ (cs Y ++ R) := by
  have hl : S.length = P.length + (M.length + R.length) := by rw [← cs_len, h, List.length_append, List.length_append]
  have h1 : b.toNat = P.length := by rw [hb]; rfl
  have h2 : e.toNat = (P ++ M).length := by rw [he, List.length_append]; rfl
  rw [cs_spl (by rw [hb]; exact Int.natCast_nonneg _) (by rw [hb, he]; exact Int.le_add_of_nonneg_right (Int.natCast_nonneg _)) (by rw [he, hl]; exact Int.ofNat_le.mpr (Nat.add_le_add_left (Nat.le_add_right _ _) _)), h1, h2, h, List.take_left' rfl, ← List.append_assoc P M, List.drop_left' rfl, List.append_assoc]
theorem cs_sliceN {S : Str} {P M R : List Nat} {b e : Int} (h : cs S = P ++ (M ++ R)) (hb : b = P.length) (he : e = (P.length : Int) + M.length) : cs (Txt.slice S (some b) (some e)) = M := by
  have hl : S.length = P.length + (M.length + R.length) := by rw [← cs_len, h, List.length_append, List.length_append]
  have h1 : b.toNat = P.length := by rw [hb]; rfl
  have h2 : (e - b).toNat = M.length := by rw [hb, he, Int.add_comm, Int.add_sub_cancel]; rfl
  rw [cs_slice (by rw [hb]; exact Int.natCast_nonneg _) (by rw [hb, he]; exact Int.le_add_of_nonneg_right (Int.natCast_nonneg _)) (by rw [he, hl]; exact Int.ofNat_le.mpr (Nat.add_le_add_left (Nat.le_add_right _ _) _)), h1, h2, h, List.drop_left' rfl, List.take_left' rfl]
/-- two places part a text in three -/
theorem cut3 {S : Str} {b e : Int} (h0 : 0 ≤ b) (h1 : b ≤ e) (h2 : e ≤ S.length) : ∃ P M R, cs S = P ++ (M ++ R) ∧ b = (P.length : Int) ∧ e = (P.length : Int) + M.length := by
  rw [← cs_len] at h2
  obtain ⟨P, X, hX, hb⟩ := cutI h0 (Int.le_trans h1 h2)
  have h3 : e - b ≤ X.length := by
    rw [hX, List.length_append] at h2
    rw [hb]
    exact Int.sub_left_le_of_le_add h2
  obtain ⟨M, R, hR, he⟩ := cutI (Int.sub_nonneg_of_le h1) h3
  exact ⟨P, M, R, by rw [hX, hR], hb, by rw [← hb, ← he, Int.add_comm, Int.sub_add_cancel]⟩
theorem spl_len_eq {S Y : Str} {b e : Int} (h0 : 0 ≤ b) (h1 : b ≤ e) (h2 : e ≤ S.length) : ((splT S Y b e).length : Int) = b + Y.length + (S.length - e) := by
  obtain ⟨P, M, R, hS, hb, he⟩ := cut3 h0 h1 h2
  have hl : (splT S Y b e).length = P.length + (Y.length + R.length) := by rw [← cs_len, cs_splN hS hb he, List.length_append, List.length_append, cs_len]
  have hs : S.length = P.length + (M.length + R.length) := by rw [← cs_len, hS, List.length_append, List.length_append]
  rw [hl, hs, hb, he]
  clear h0 h1 h2 hS hb he hl hs
  omega
theorem slice_len {S : Str} {b e : Int} (h0 : 0 ≤ b) (h1 : b ≤ e) (h2 : e ≤ S.length) : ((Txt.slice S (some b) (some e)).length : Int) = e - b := by
  obtain ⟨P, M, R, hS, hb, he⟩ := cut3 h0 h1 h2
  rw [← cs_len, cs_sliceN hS hb he, he, hb, Int.add_comm, Int.add_sub_cancel]
/-- two in places apart, in either order -/
theorem apart_law {S Y Z : Str} {a b c d : Int} (h0 : 0 ≤ a) (h1 : a ≤ b) (h2 : b ≤ c) (h3 : c ≤ d) (h4 : d ≤ S.length) :
    splT (splT S Z c d) Y a b = splT (splT S Y a b) Z (c + ((Y.length : Int) - (b - a))) (d + ((Y.length : Int) - (b - a))) := by
  obtain ⟨P, D, R, e1, hc, hd⟩ := cut3 (Int.le_trans (Int.le_trans h0 h1) h2) h3 h4
  obtain ⟨A, X, e2, ha⟩ := cutI (X := P) h0 (by rw [← hc]; exact Int.le_trans h1 h2)
  have h5 : b - a ≤ X.length := by
    rw [e2, List.length_append] at hc
    rw [ha]
    rw [hc] at h2
    exact Int.sub_left_le_of_le_add h2
  obtain ⟨B, C, e3, hb⟩ := cutI (Int.sub_nonneg_of_le h1) h5
  have hb' : b = (A.length : Int) + B.length := by rw [← ha, ← hb, Int.add_comm, Int.sub_add_cancel]
  subst e3
  subst e2
  have g1 : cs S = A ++ (B ++ (C ++ (D ++ R))) := by rw [e1]; simp only [List.append_assoc]
  have s1 : cs (splT S Z c d) = A ++ (B ++ (C ++ (cs Z ++ R))) := by rw [cs_splN e1 hc hd]; simp only [List.append_assoc]
  have s2 : cs (splT S Y a b) = (A ++ (cs Y ++ C)) ++ (D ++ R) := by rw [cs_splN g1 ha hb']; simp only [List.append_assoc]
  have k1 : c + ((Y.length : Int) - (b - a)) = ((A ++ (cs Y ++ C)).length : Int) := by
    rw [hb, hc]
    simp only [List.length_append, cs_len]
    clear g1 s1 s2 e1 h0 h1 h2 h3 h4 h5 hb hb' hc hd ha
    omega
  have k2 : d + ((Y.length : Int) - (b - a)) = ((A ++ (cs Y ++ C)).length : Int) + D.length := by
    rw [← k1, hd, hc, Int.add_right_comm]
  apply str_ext
  rw [cs_splN s1 ha hb', cs_splN s2 k1 k2]
  simp only [List.append_assoc]
/-- undone, it is the elder one -/
theorem undo_law {S Y : Str} {b e : Int} (h0 : 0 ≤ b) (h1 : b ≤ e) (h2 : e ≤ S.length) :
    splT (splT S Y b e) (Txt.slice S (some b) (some e)) b (b + Y.length) = S := by
  obtain ⟨P, M, R, hS, hb, he⟩ := cut3 h0 h1 h2
  apply str_ext
  rw [cs_splN (cs_splN hS hb he) hb (by rw [hb, cs_len]), cs_sliceN hS hb he, hS]
theorem mid_law {S : Str} {b m e : Int} (h0 : 0 ≤ b) (h1 : b ≤ m) (h2 : m ≤ e) (h3 : e ≤ S.length) :
    Txt.slice S (some b) (some m) ++ Txt.slice S (some m) (some e) = Txt.slice S (some b) (some e) := by
  obtain ⟨P, M, R, hS, hm, he⟩ := cut3 (Int.le_trans h0 h1) h2 h3
  obtain ⟨A, B, e2, hb⟩ := cutI (X := P) h0 (by rw [← hm]; exact h1)
  subst e2
  have g : cs S = A ++ (B ++ (M ++ R)) := by rw [hS, List.append_assoc]
  have g2 : cs S = A ++ ((B ++ M) ++ R) := by rw [hS]; simp only [List.append_assoc]
  have hm' : m = (A.length : Int) + B.length := by rw [hm, List.length_append]; rfl
  apply str_ext
  rw [cs_append, cs_sliceN g hb hm', cs_sliceN hS hm he, cs_sliceN g2 hb (by rw [he, List.length_append, List.length_append, Int.natCast_add, Int.natCast_add, Int.add_assoc])]
/-- what the pieces spell -/
def spell (src : List Str) : List (Int × Int × Int) → List Nat
  | [] => []
  | (n, f, l) :: r => ((cs (src.getD n.toNat ⟨#[]⟩)).drop f.toNat).take (l - f).toNat ++ spell src r
def Good (src : List Str) (ts : List (Int × Int × Int)) : Prop := ∀ q ∈ ts, 0 ≤ q.1 ∧ q.1 < src.length ∧ 0 ≤ q.2.1 ∧ q.2.1 ≤ q.2.2 ∧ q.2.2 ≤ ((src.getD q.1.toNat ⟨#[]⟩).length : Int)
theorem spell_append (src) (a b : List (Int × Int × Int)) : spell src (a ++ b) = spell src a ++ spell src b := by
  induction a with
  | nil => rfl
  | cons q r ih => obtain ⟨n, f, l⟩ := q; simp only [List.cons_append, spell, ih, List.append_assoc]
theorem clampL (x : Int) : (if 0 > x then 0 else x) = (x.toNat : Int) := by
  split <;> omega
theorem toNat_sub' {x k : Int} (hk : 0 ≤ k) : (x - k).toNat = x.toNat - k.toNat := by
  obtain ⟨k, rfl⟩ := Int.eq_ofNat_of_zero_le hk
  cases x with
  | ofNat n => exact Int.toNat_sub n k
  | negSucc n => exact (Int.toNat_of_nonpos (Int.sub_nonpos_of_le (Int.le_trans (Int.le_of_lt (Int.negSucc_lt_zero n)) hk))).trans (Nat.zero_sub _).symm
theorem cutIf {n x : Int} {p : Nat} (hn : 0 ≤ n) : ((p : Int) < (if n < x then n else x) → (if n < x then n else x) = ((min x.toNat n.toNat : Nat) : Int)) ∧ (¬ (p : Int) < (if n < x then n else x) → min x.toNat n.toNat ≤ p) := by
  constructor <;> (split <;> omega)
theorem cut_app {A B : List Nat} {p q n : Nat} (hA : A.length = n) : ((A ++ B).take q).drop p = (A.take q).drop p ++ (B.take (q - n)).drop (p - n) := by
  rw [List.take_append, List.drop_append, List.length_take, hA]
  congr 1
  rcases Nat.le_total n q with h | h
  · rw [Nat.min_eq_right h]
  · rw [Nat.sub_eq_zero_of_le h, List.take_zero, List.drop_nil, List.drop_nil]
theorem spell_cut {src : List Str} {b e : Int} (hbe : b ≤ e) : ∀ (ts : List (Int × Int × Int)) (at_ : Int), Good src ts →
    spell src (cutT at_ b e ts) = ((spell src ts).take (e - at_).toNat).drop (b - at_).toNat
  | [], at_, _ => by simp only [cutT, spell, List.take_nil, List.drop_nil]
  | (n, f, l) :: r, at_, h => by
    have ih := spell_cut hbe r (at_ + l - f) fun q hq => h q (.tail _ hq)
    have hq := h _ (.head _)
    dsimp only at hq
    obtain ⟨-, -, hf, hfl, hlX⟩ := hq
    have hn : 0 ≤ l - f := Int.sub_nonneg_of_le hfl
    have ea : ∀ y : Int, y - (at_ + l - f) = (y - at_) - (l - f) := fun y => by rw [Int.add_sub_assoc, Int.sub_sub]
    rw [ea, ea, toNat_sub' hn, toNat_sub' hn] at ih
    generalize hX : (cs (src.getD n.toNat ⟨#[]⟩)).drop f.toNat = X
    have hP : (X.take (l - f).toNat).length = (l - f).toNat := by
      rw [← hX, List.length_take, List.length_drop, cs_len]
      exact Nat.min_eq_left (by clear ih ea hX hbe h hn; omega)
    have e0 : spell src ((n, f, l) :: r) = X.take (l - f).toNat ++ spell src r := by rw [spell, hX]
    have e1 : cutT at_ b e ((n, f, l) :: r) = (if (if 0 > b - at_ then 0 else b - at_) < (if l - f < e - at_ then l - f else e - at_) then [(n, f + (if 0 > b - at_ then 0 else b - at_), f + (if l - f < e - at_ then l - f else e - at_))] else []) ++ cutT (at_ + l - f) b e r := rfl
    rw [e0, e1, spell_append, ih, cut_app hP, clampL, List.take_take]
    congr 1
    rw [List.drop_take]
    obtain ⟨c1, c2⟩ := cutIf (x := e - at_) (p := (b - at_).toNat) hn
    by_cases hlt : (((b - at_).toNat : Nat) : Int) < (if l - f < e - at_ then l - f else e - at_)
    · rw [if_pos hlt, c1 hlt]
      simp only [spell, List.append_nil]
      rw [Int.add_sub_add_left, show (f + (((b - at_).toNat : Nat) : Int)).toNat = f.toNat + (b - at_).toNat from (Int.toNat_add hf (Int.natCast_nonneg _)).trans (congrArg (f.toNat + ·) (Int.toNat_natCast _)), ← List.drop_drop, hX, Int.toNat_sub]
    · rw [if_neg hlt, Nat.sub_eq_zero_of_le (c2 hlt), List.take_zero]
      rfl
theorem good_cut {src : List Str} {b e : Int} : ∀ (ts : List (Int × Int × Int)) (at_ : Int), Good src ts → Good src (cutT at_ b e ts)
  | [], _, _ => fun q hq => nomatch hq
  | (n, f, l) :: r, at_, h => by
    have ih := good_cut (b := b) (e := e) r (at_ + l - f) fun q hq => h q (.tail _ hq)
    have hq := h _ (.head _)
    dsimp only at hq
    intro q hq2
    have e1 : cutT at_ b e ((n, f, l) :: r) = (if (if 0 > b - at_ then 0 else b - at_) < (if l - f < e - at_ then l - f else e - at_) then [(n, f + (if 0 > b - at_ then 0 else b - at_), f + (if l - f < e - at_ then l - f else e - at_))] else []) ++ cutT (at_ + l - f) b e r := rfl
    rw [e1] at hq2
    rcases List.mem_append.mp hq2 with hq2 | hq2
    · have h1 : 0 ≤ (if 0 > b - at_ then 0 else b - at_) := by split <;> omega
      have h2 : (if l - f < e - at_ then l - f else e - at_) ≤ l - f := by split <;> omega
      generalize (if 0 > b - at_ then 0 else b - at_) = low at hq2 h1
      generalize (if l - f < e - at_ then l - f else e - at_) = high at hq2 h2
      by_cases hlt : low < high
      · rw [if_pos hlt] at hq2
        rw [List.mem_singleton.mp hq2]
        dsimp only
        omega
      · rw [if_neg hlt] at hq2
        cases hq2
    · exact ih q hq2
theorem cut_len {b e : Int} : ∀ (ts : List (Int × Int × Int)) (at_ : Int), (cutT at_ b e ts).length ≤ ts.length
  | [], _ => Nat.le_refl _
  | (n, f, l) :: r, at_ => by
    have ih := cut_len (b := b) (e := e) r (at_ + l - f)
    have e1 : cutT at_ b e ((n, f, l) :: r) = (if (if 0 > b - at_ then 0 else b - at_) < (if l - f < e - at_ then l - f else e - at_) then [(n, f + (if 0 > b - at_ then 0 else b - at_), f + (if l - f < e - at_ then l - f else e - at_))] else []) ++ cutT (at_ + l - f) b e r := rfl
    rw [e1, List.length_append, List.length_cons]
    generalize (if 0 > b - at_ then 0 else b - at_) = low
    generalize (if l - f < e - at_ then l - f else e - at_) = high
    by_cases hlt : low < high
    · rw [if_pos hlt, List.length_singleton]; omega
    · rw [if_neg hlt, List.length_nil]; omega
theorem spell_src {src : List Str} {t : Str} : ∀ {ts : List (Int × Int × Int)}, Good src ts → spell (src ++ [t]) ts = spell src ts
  | [], _ => rfl
  | (n, f, l) :: r, h => by
    have hq := h _ (.head _)
    dsimp only at hq
    rw [spell, spell, spell_src fun q hq => h q (.tail _ hq)]
    congr 4
    rw [List.getD_eq_getElem?_getD, List.getD_eq_getElem?_getD, List.getElem?_append_left (by omega)]
theorem good_src {src : List Str} {t : Str} {ts : List (Int × Int × Int)} (h : Good src ts) : Good (src ++ [t]) ts := fun q hq => by
  have hq := h q hq
  refine ⟨hq.1, by rw [List.length_append, List.length_singleton]; omega, hq.2.2.1, hq.2.2.2.1, ?_⟩
  rw [List.getD_eq_getElem?_getD, List.getElem?_append_left (by omega), ← List.getD_eq_getElem?_getD]
  exact hq.2.2.2.2
/-- a turn's pieces spell what the turn made -/
theorem turn_spell {src : List Str} {t S : Str} {ts : List (Int × Int × Int)} {b e : Int} (h : Good src ts) (hS : spell src ts = cs S) (h0 : 0 ≤ b) (h1 : b ≤ e) (h2 : e ≤ S.length) :
    spell (src ++ [t]) (cutT 0 0 b ts ++ [((src.length : Int), 0, (t.length : Int))] ++ cutT 0 e S.length ts) = cs (splT S t b e) ∧ Good (src ++ [t]) (cutT 0 0 b ts ++ [((src.length : Int), 0, (t.length : Int))] ++ cutT 0 e S.length ts) := by
  have eg : (src ++ [t]).getD src.length ⟨#[]⟩ = t := by rw [List.getD_eq_getElem?_getD, List.getElem?_append_right (Nat.le_refl _), Nat.sub_self]; rfl
  constructor
  · rw [spell_append, spell_append, spell_src (good_cut ts 0 h), spell_src (good_cut ts 0 h), spell_cut (b := 0) (e := b) h0 ts 0 h, spell_cut (b := e) (e := S.length) h2 ts 0 h, hS, cs_spl h0 h1 h2]
    simp only [spell, List.append_nil, Int.sub_zero, Int.toNat_natCast, Int.toNat_zero, List.drop_zero, eg]
    have t3 : (cs S).take S.length = cs S := List.take_of_length_le (Nat.le_of_eq (cs_len S))
    have t4 : (cs t).take t.length = cs t := List.take_of_length_le (Nat.le_of_eq (cs_len t))
    rw [t3, t4]
  · intro q hq
    rcases List.mem_append.mp hq with hq | hq
    · rcases List.mem_append.mp hq with hq | hq
      · exact good_src (good_cut ts 0 h) q hq
      · rw [List.mem_singleton.mp hq]
        dsimp only
        rw [Int.toNat_natCast, eg, List.length_append, List.length_singleton]
        omega
    · exact good_src (good_cut ts 0 h) q hq
end

section
open PySem PySem.W PySem.Calls PyProof PyProof.Rows PySem.Spec
theorem cutT_cons (at_ b e n f l : Int) (r : List (Int × Int × Int)) : (cutT at_ b e ((n, f, l) :: r)).length = (if (if 0 > b - at_ then 0 else b - at_) < (if l - f < e - at_ then l - f else e - at_) then 1 else 0) + (cutT (at_ + l - f) b e r).length := by
  have e1 : cutT at_ b e ((n, f, l) :: r) = (if (if 0 > b - at_ then 0 else b - at_) < (if l - f < e - at_ then l - f else e - at_) then [(n, f + (if 0 > b - at_ then 0 else b - at_), f + (if l - f < e - at_ then l - f else e - at_))] else []) ++ cutT (at_ + l - f) b e r := rfl
  rw [e1, List.length_append]
  generalize (if 0 > b - at_ then 0 else b - at_) = low
  generalize (if l - f < e - at_ then l - f else e - at_) = high
  by_cases h : low < high
  · rw [if_pos h, if_pos h]; rfl
  · rw [if_neg h, if_neg h]; rfl
theorem cut_none {b : Int} : ∀ (ts : List (Int × Int × Int)) (at_ : Int), 0 ≤ at_ → b ≤ at_ → (∀ q ∈ ts, q.2.1 ≤ q.2.2) → (cutT at_ 0 b ts).length = 0
  | [], _, _, _, _ => rfl
  | (n, f, l) :: r, at_, h0, h1, h => by
    have hq : f ≤ l := h _ (.head _)
    rw [cutT_cons, cut_none r (at_ + l - f) (by omega) (by omega) fun q hq => h q (.tail _ hq)]
    have g1 : (if 0 > 0 - at_ then (0 : Int) else 0 - at_) ≥ 0 := by split <;> omega
    have g2 : (if l - f < b - at_ then l - f else b - at_) ≤ 0 := by split <;> omega
    rw [if_neg (by omega)]
theorem cut_two {b e m : Int} (hbe : b ≤ e) : ∀ (ts : List (Int × Int × Int)) (at_ : Int), 0 ≤ at_ → (∀ q ∈ ts, q.2.1 ≤ q.2.2) → (cutT at_ 0 b ts).length + (cutT at_ e m ts).length ≤ ts.length + 1
  | [], _, _, _ => by simp [cutT]
  | (n, f, l) :: r, at_, h0, h => by
    have hq : f ≤ l := h _ (.head _)
    have ih := cut_two (m := m) hbe r (at_ + l - f) (by omega) fun q hq => h q (.tail _ hq)
    have hr := cut_len (b := e) (e := m) r (at_ + l - f)
    rw [cutT_cons, cutT_cons, List.length_cons]
    by_cases hb : b ≤ at_ + l - f
    · have hn := cut_none (b := b) r (at_ + l - f) (by omega) hb fun q hq => h q (.tail _ hq)
      rw [hn]
      have k1 : ∀ p : Prop, [Decidable p] → (if p then 1 else 0) ≤ 1 := fun p _ => by split <;> omega
      have k2 := k1 ((if 0 > 0 - at_ then (0 : Int) else 0 - at_) < (if l - f < b - at_ then l - f else b - at_))
      have k3 := k1 ((if 0 > e - at_ then (0 : Int) else e - at_) < (if l - f < m - at_ then l - f else m - at_))
      omega
    · have g1 : (if 0 > e - at_ then (0 : Int) else e - at_) = e - at_ := by split <;> omega
      have g2 : (if l - f < m - at_ then l - f else m - at_) ≤ l - f := by split <;> omega
      have k1 : ∀ p : Prop, [Decidable p] → (if p then 1 else 0) ≤ 1 := fun p _ => by split <;> omega
      have k2 := k1 ((if 0 > 0 - at_ then (0 : Int) else 0 - at_) < (if l - f < b - at_ then l - f else b - at_))
      rw [if_neg (c := (if 0 > e - at_ then (0 : Int) else e - at_) < (if l - f < m - at_ then l - f else m - at_)) (by rw [g1]; omega)]
      omega
end

section
theorem regMBt : (fun (_ : OpenLaw) (_ : Params → Frag) => True) PySem.Challenge.rw_sj0197_01 KF := by
  k_with_none
  k_with "m enter" => (
    (case k1 => exact B); (case k2 => exact X); (case k3 => exact T); (case k4 => exact st); (case k5 => exact sz); (case k6 => exact N)
    (case k7 => k_dflt k_is)
    (case hb => (conv => lhs; whnf))
    (case hs => (conv => lhs; whnf))
    (case k8 => k_dflt k_is)
    (case k9 => decide)
    (case k10 => exact BindsTo.of_eq rfl)
    (case k11 => exact locs rfl)
    (case c1 => exact rfl); (case c2 => exact rfl); (case c3 => exact rfl); (case c4 => decide)
    clear st sz N
    intro L h F N'
    (try dsimp only)
    (try k_fold))
  k_with "m end" => ((try k_unfold); (try dsimp only); refine' hret _ _ _ ?e1 ?e2 ?e3 ?e4; (case e1 => exact Fr.keep (by k_asm)); (case e4 => k_extra "m kept"))
  k_with "m kept" => (first | exact kept_nil | (refine' kept_tup ?ka ?kb ?kc; (case ka => k_asm); (case kb => k_mem); (case kc => k_extra "m kept")) | (refine' kept_not ?kd ?ke ?kf; (case kd => k_extra "m cls"); (case ke => decide); (case kf => k_extra "m kept")))
  k_with "m sub" => (first | exact subNil | exact subRefl | (refine' subStep ?su; (case su => k_extra "m sub")) | (refine' subUpS ?sk ?su; (case sk => ((fail_if_success (refine skipOf ?_; k_mem)); exact trivial)); (case su => k_extra "m sub")) | (refine' subCons ?sa ?sb; (case sa => k_mem); (case sb => k_extra "m sub")))
  k_with "m same" => (
    intro z h2 h3
    simp only [List.forall_mem_cons, List.not_mem_nil, false_implies, implies_true, and_true, ne_eq] at h2
    simp [kstB, h2])
  k_with "m same2" => (
    intro z h2 h3
    dsimp only [isPs, psOf] at h2
    simp only [List.forall_mem_cons, List.not_mem_nil, false_implies, implies_true, and_true, ne_eq] at h2
    simp only [List.contains_cons, List.contains_nil, Bool.or_false, Bool.or_eq_false_iff, beq_eq_false_iff_ne, ne_eq] at h3
    simp [kstB, h2, h3])
  k_with "m same3" => (
    intro z h2 h3
    simp only [List.forall_mem_cons, List.not_mem_nil, false_implies, implies_true, and_true, ne_eq] at h2
    simp only [List.contains_cons, List.contains_nil, Bool.or_false, beq_eq_false_iff_ne, ne_eq] at h3
    simp [kstB, h2, h3])
  k_with "m same4" => (
    intro z h2 h3
    simp only [List.forall_mem_cons, List.not_mem_nil, false_implies, implies_true, and_true, ne_eq] at h2
    simp only [List.contains_cons, List.contains_nil, Bool.or_false, Bool.or_eq_false_iff, beq_eq_false_iff_ne, ne_eq] at h3
    simp [kstB, h2, h3])
  k_with "m led" => (dsimp only [isLed, osLed, fxL, vD, hD, List.cons_append, List.nil_append]; k_extra "m sub")
  k_with "m ps" => (dsimp only [isPs, psOf]; kst_all)
  k_with "m all" => exact newsOut (by k_asm)
  k_with "m outA" => exact newsSub (by k_asm) (subApp (by k_extra "m sub"))
  k_with "m out" => exact newsSub (by k_asm) (by k_extra "m sub")
  k_with "m t1" => (first | with_reducible exact Take1.head | (refine' Take1.tail ?mt; (case mt => k_extra "m t1")))
  k_with "m take" => (first | exact TakeL.nil | (refine' TakeL.cons ?ma ?mb; (case ma => k_extra "m t1"); (case mb => k_extra "m take")))
  k_with "m cls" => (first | assumption | exact dict_cls (by assumption) | (conv => lhs; whnf))
  k_with "m nocell" => exact rfl
  k_with "m ne" => (first | assumption | (refine Ne.symm ?_; assumption) | (refine' ne_cls ?na ?nb ?nc ?nd ?nf ?ng; (case na => k_asm); (case nb => k_mem); (case nc => k_mem); (case nd => k_extra "m cls"); (case nf => k_extra "m cls"); (case ng => decide)) | (refine' ne_cell ?na ?nb ?nc ?nd ?nf; (case na => k_asm); (case nb => k_mem); (case nc => k_mem); (case nd => assumption); (case nf => k_extra "m nocell")) | (refine Ne.symm ?_; refine' ne_cell ?na ?nb ?nc ?nd ?nf; (case na => k_asm); (case nb => k_mem); (case nc => k_mem); (case nd => assumption); (case nf => k_extra "m nocell")) | (refine neN ?_; (try dsimp only); omega))
  k_with "m ne1" => (first | exact ne1_nil | (refine' ne1_tup ?nt ?nu; (case nt => first | exact rfl | assumption); (case nu => k_extra "m ne1")) | (refine' ne1_cls ?n1 ?n2 ?n3 ?n4; (case n1 => k_extra "m cls"); (case n2 => k_extra "m cls"); (case n3 => decide); (case n4 => k_extra "m ne1")) | (refine' ne1_cell ?n1 ?n2 ?n4; (case n1 => assumption); (case n2 => k_extra "m nocell"); (case n4 => k_extra "m ne1")) | (refine' ne1_cons ?nv ?nw; (case nv => k_extra "m ne"); (case nw => k_extra "m ne1")))
  k_with "m off" => (first | exact off_nil | k_extra "m offop" | (refine' off_consT ?oc ?ob; (case oc => first | exact rfl | assumption); (case ob => k_extra "m off")) | (refine' off_cons ?oa ?ob; (case oa => k_extra "m ne1"); (case ob => k_extra "m off")))
  k_with "m use" => (
    (case hA => exact rfl); (case hf => exact rfl); (case hk => exact rfl); (case hh => exact rfl)
    (case B => k_asm); (case F => k_asm); (case X => k_asm); (case T => k_asm); (case N => k_asm)
    (case hd => exact Nat.le_of_ble_eq_true rfl); (case hu => exact Nat.le_of_ble_eq_true rfl)
    (case tk => k_extra "m take")
    (case off => k_extra "m off"))
  k_with "call ref" => (k_here; k_dflt (k_extra "m call"))
  k_with "compareOp NotIn str ref" => (k_here; k_dflt (refine' notin_tuple_strs ?k1 ?k2 ?_; (case k1 => exact tupK (by k_in) (by k_is)); (case k2 => kde_strs); k_whole))
  k_with "compareOp In str ref" => (k_here; k_dflt (refine' in_tuple_strs ?k1 ?k2 ?_; (case k1 => exact tupK (by k_in) (by k_is)); (case k2 => kde_strs); k_whole))
  k_with "setItem ref str" => (k_here; k_dflt (refine' setItem_K PyProof.V.same_str (strKind_is _ _ _ _) ?v ?F ?N ?U ?d ?f ?_ ?z; (case F => k_asm); (case N => k_asm); (case U => k_updF); (case d => k_asm); (case f => k_asm); (case z => exact line_of_lenLe (n := 5) (by assumption) (by decide)); (case v => k_flat)); intro h' o' F' N' hd' hf'; (try dsimp only at N'); (try k_sweep))
  k_with "compareOp Eq ref str" => (k_here; k_dflt (refine' eq_tup_str ?k1 ?k2 ?k3 ?_; (case k1 => k_asm); (case k2 => k_mem); (case k3 => exact Nat.le_of_ble_eq_true rfl); k_whole))
  k_with "CompSrc" => (k_here; k_dflt (k_extra "m src"))
  k_with "CompEnd" => (k_here; k_extra "m compend")
  k_with "call builtin:sorted" => (k_here; k_dflt (k_extra "m sorted"))
  k_with "compareOp NotEq str str" => (k_here; k_extra "m neq")
  k_with "compareOp Eq str str" => (k_here; k_extra "m eqs")
  k_with "call builtin:str.join" => (k_here; k_dflt (k_extra "m join"))
  k_with "eval Lambda" => (k_here; k_dflt (k_extra "m lam"))
  k_with "compareOp NotEq int int" => (k_here; k_dflt (k_extra "m neqi"))
  k_with "compareOp NotEq ref ref" => (k_here; k_dflt (k_extra "m neqt"))
  k_with "call builtin:len" => (k_here; k_dflt (k_extra "m len"))
  k_with "binaryOp Add ref ref" => (k_here; k_dflt (k_extra "m addl"))
  k_with "eval ListComp" => (k_here; k_extra "m comp")
  k_with "subscriptTail" => (k_here; k_dflt (k_extra "m item"))
  k_with "execs cons" => (k_here; k_extra "m stmt")
  trivial
noncomputable def arbN (S : Str) (l2 : Leaf) : Nat → Int → Option (Int × Int)
  | 0, p => match leafEnd S p l2 with
    | some e => some (p, e)
    | none => none
  | k + 1, p => match leafEnd S p l2 with
    | some e => some (p, e)
    | none => arbN S l2 k (p + 1)
noncomputable def arbR (S : Str) (l2 : Leaf) (p : Int) : Option (Int × Int) := arbN S l2 (S.length - p).toNat p
noncomputable def tailR (S : Str) (l2 : Leaf) (m : Int) (nx : Option Int) : Option (Int × Int) := match leafEnd S m l2 with
  | some e => some (m, e)
  | none => match nx with
    | some q => arbR S l2 q
    | none => none
noncomputable def startR (S : Str) (l1 l2 : Leaf) (p : Int) : Option (Int × Int) := match l1 with
  | .arb => arbR S l2 p
  | l => match leafEnd S p l with
    | some m => tailR S l2 m none
    | none => none
theorem arbR_go {S : Str} {l2 : Leaf} {p : Int} (h : p < S.length) : arbR S l2 p = tailR S l2 p (some (p + 1)) := by
  unfold arbR tailR
  rw [show ((S.length : Int) - p).toNat = ((S.length : Int) - (p + 1)).toNat + 1 by omega]
  rfl
theorem arbR_end {S : Str} {l2 : Leaf} {p : Int} (h : ¬ p < S.length) : arbR S l2 p = tailR S l2 p none := by
  unfold arbR tailR
  rw [show ((S.length : Int) - p).toNat = 0 by omega]
  rfl
theorem startR_leaf {S : Str} {l1 l2 : Leaf} {p : Int} (h : l1 ≠ .arb) : startR S l1 l2 p = match leafEnd S p l1 with
    | some m => tailR S l2 m none
    | none => none := by
  cases l1 <;> first | rfl | exact absurd rfl h
set_option genSizeOfSpec false in
set_option genInjectivity false in
structure MC where
  (no f1 f2 l1 l2 wr vr rd hs hd vd rl lg : Addr)
  (t0 t1 t2 k1 k2 k3 k4 k5 k6 tl tw j1 j2 j3 u1 u3 : Tok)
  (o1 o2 od : Obj)
  (rn ln : Nat)
  (lv : List Value)
  (b : Int)
  (S : Str)
set_option genSizeOfSpec false in
set_option genInjectivity false in
inductive IS where
  | a0 (n : Int) (tn : Tok) (ca : Addr) (t : Tok) (pn : Nat)
  | a1 (n : Int) (tn : Tok) (ca c2 : Addr) (t : Tok) (pn : Nat)
  | a2 (n : Int) (tn : Tok) (ca d2 en c2 : Addr) (p : Int) (t te tb : Tok) (pn : Nat)
  | a3 (n : Int) (tn : Tok) (d2 en c2 wa wc : Addr) (m : Int) (t te tb : Tok) (pv wv1 wv2 : List Value) (pn : Nat) (nx : Option Int)
  | a4 (n : Int) (tn : Tok) (d2 en c2 wa wc n2 pr : Addr) (m : Int) (t te tb tx : Tok) (pv wv1 wv2 : List Value) (pn : Nat) (nx : Option Int)
  | a5 (n : Int) (tn : Tok) (d2 en c2 wa wc n2 pr ca e2 e3 : Addr) (m : Int) (t te tb tx te3 tm : Tok) (pv wv1 wv2 : List Value) (pn : Nat) (nx : Option Int)
  | a6 (n : Int) (tn : Tok) (n2 pr e2 e3 : Addr) (m e : Int) (t tx te3 tm : Tok) (pv : List Value) (pn : Nat)
  | a7 (n : Int) (tn : Tok) (n2 pr : Addr) (m e : Int) (t tx ty : Tok) (pv : List Value) (pn : Nat) (od : Obj) (lv : List Value) (ln : Nat)
abbrev hD (w : World) (C : MC) (n : Int) (tn : Tok) : Addr × Obj := (C.hd, hostD w C.k1 C.k2 C.k3 C.k4 C.k5 C.k6 C.vd C.rl C.lg C.tl C.tw n tn)
/-- the tuples that stay as they are -/
def fxT (C : MC) (na : Addr) : Led := [(C.no, tup [.str (Str.ofString "cat") C.t0, .ref C.f1, .ref C.f2]), (C.f1, tup [.str (Str.ofString "later") C.t1, .ref C.l1, .ref C.wr]), (C.f2, tup [.str (Str.ofString "now") C.t2, .ref C.l2, .ref C.vr]), (C.l1, C.o1), (C.l2, C.o2), (na, tup [])]
theorem fx_tup {C : MC} {na : Addr} (h1 : C.o1.cls = TUP) (h2 : C.o2.cls = TUP) : ∀ p ∈ fxT C na, p.2.cls = TUP := allCons rfl (allCons rfl (allCons rfl (allCons h1 (allCons h2 (allCons rfl allNil)))))
theorem fx_no {C : MC} {na : Addr} {r : Led} (h : ∀ p ∈ fxT C na, p ∈ r) : (C.no, tup [.str (Str.ofString "cat") C.t0, .ref C.f1, .ref C.f2]) ∈ r := h _ (.head _)
theorem fx_f1 {C : MC} {na : Addr} {r : Led} (h : ∀ p ∈ fxT C na, p ∈ r) : (C.f1, tup [.str (Str.ofString "later") C.t1, .ref C.l1, .ref C.wr]) ∈ r := h _ (.tail _ (.head _))
theorem fx_f2 {C : MC} {na : Addr} {r : Led} (h : ∀ p ∈ fxT C na, p ∈ r) : (C.f2, tup [.str (Str.ofString "now") C.t2, .ref C.l2, .ref C.vr]) ∈ r := h _ (.tail _ (.tail _ (.head _)))
theorem fx_l1 {C : MC} {na : Addr} {r : Led} (h : ∀ p ∈ fxT C na, p ∈ r) : (C.l1, C.o1) ∈ r := h _ (.tail _ (.tail _ (.tail _ (.head _))))
theorem fx_l2 {C : MC} {na : Addr} {r : Led} (h : ∀ p ∈ fxT C na, p ∈ r) : (C.l2, C.o2) ∈ r := h _ (.tail _ (.tail _ (.tail _ (.tail _ (.head _)))))
theorem fx_na {C : MC} {na : Addr} {r : Led} (h : ∀ p ∈ fxT C na, p ∈ r) : (na, tup []) ∈ r := h _ (.tail _ (.tail _ (.tail _ (.tail _ (.tail _ (.head _))))))
abbrev fxL (w : World) (C : MC) (na : Addr) : Led := [(C.hs, instObj 229 C.hd), (C.vr, instObj 138 C.rd), (C.rd, refD w C.j1 C.j2 C.j3 (Str.ofString "V") C.u1 C.u3), (C.rl, listOf #[] C.rn)] ++ fxT C na
abbrev vD (C : MC) : Led := [(C.vd, C.od), (C.lg, listOf C.lv.toArray C.ln)]
noncomputable def isLed (w : World) (C : MC) (na pa : Addr) : IS → Led
  | .a0 n tn ca t pn => [hD w C n tn, (pa, listOf ([] : List Value).toArray pn), (ca, tup [.ref C.no, .none])] ++ vD C ++ fxL w C na
  | .a1 n tn ca c2 t pn => [hD w C n tn, (pa, listOf ([] : List Value).toArray pn), (ca, tup [.ref C.f1, .ref c2]), (c2, tup [.ref C.f2, .none])] ++ vD C ++ fxL w C na
  | .a2 n tn ca d2 en c2 p t te tb pn => [hD w C n tn, (pa, listOf ([] : List Value).toArray pn), (ca, tup [.ref C.l1, .ref d2]), (d2, tup [.ref en, .ref c2]), (en, tup [.str (Str.ofString "end later") te, .ref C.wr, .int C.b tb]), (c2, tup [.ref C.f2, .none])] ++ vD C ++ fxL w C na
  | .a3 n tn d2 en c2 wa wc m t te tb pv wv1 wv2 pn nx => [hD w C n tn, (pa, listOf pv.toArray pn), (d2, tup [.ref en, .ref c2]), (en, tup [.str (Str.ofString "end later") te, .ref C.wr, .int C.b tb]), (c2, tup [.ref C.f2, .none]), (wa, tup wv1), (wc, tup wv2)] ++ vD C ++ fxL w C na
  | .a4 n tn d2 en c2 wa wc n2 pr m t te tb tx pv wv1 wv2 pn nx => [hD w C n tn, (pa, listOf pv.toArray pn), (d2, tup [.ref en, .ref c2]), (en, tup [.str (Str.ofString "end later") te, .ref C.wr, .int C.b tb]), (c2, tup [.ref C.f2, .none]), (wa, tup wv1), (wc, tup wv2), (n2, tup [.ref pr]), (pr, tup [.ref C.wr, .str (Txt.slice C.S (some C.b) (some m)) tx])] ++ vD C ++ fxL w C na
  | .a5 n tn d2 en c2 wa wc n2 pr ca e2 e3 m t te tb tx te3 tm pv wv1 wv2 pn nx => [hD w C n tn, (pa, listOf pv.toArray pn), (d2, tup [.ref en, .ref c2]), (en, tup [.str (Str.ofString "end later") te, .ref C.wr, .int C.b tb]), (c2, tup [.ref C.f2, .none]), (wa, tup wv1), (wc, tup wv2), (n2, tup [.ref pr]), (pr, tup [.ref C.wr, .str (Txt.slice C.S (some C.b) (some m)) tx]),
      (ca, tup [.ref C.l2, .ref e2]), (e2, tup [.ref e3, .none]), (e3, tup [.str (Str.ofString "end now") te3, .ref C.vr, .int m tm])] ++ vD C ++ fxL w C na
  | .a6 n tn n2 pr e2 e3 m e t tx te3 tm pv pn => [hD w C n tn, (pa, listOf pv.toArray pn), (n2, tup [.ref pr]), (pr, tup [.ref C.wr, .str (Txt.slice C.S (some C.b) (some m)) tx]), (e2, tup [.ref e3, .none]), (e3, tup [.str (Str.ofString "end now") te3, .ref C.vr, .int m tm])] ++ vD C ++ fxL w C na
  | .a7 n tn n2 pr m e t tx ty pv pn od lv ln => [hD w C n tn, (pa, listOf pv.toArray pn), (n2, tup [.ref pr]), (pr, tup [.ref C.wr, .str (Txt.slice C.S (some C.b) (some m)) tx])] ++ [(C.vd, od), (C.lg, listOf lv.toArray ln)] ++ fxL w C na
abbrev psOf (C : MC) (ts : Tok) (pa : Addr) (ch : Value) (at_ : Int) (t : Tok) (nm : Addr) : List (Str × Value) := [(Str.ofString "chain", ch), (Str.ofString "at", .int at_ t), (Str.ofString "named", .ref nm), (Str.ofString "subject", .str C.S ts), (Str.ofString "pile", .ref pa), (Str.ofString "host", .ref C.hs)]
noncomputable def isPs (C : MC) (na : Addr) (ts : Tok) (pa : Addr) : IS → List (Str × Value)
  | .a0 n tn ca t pn => psOf C ts pa (.ref ca) C.b t na
  | .a1 n tn ca c2 t pn => psOf C ts pa (.ref ca) C.b t na
  | .a2 n tn ca d2 en c2 p t te tb pn => psOf C ts pa (.ref ca) p t na
  | .a3 n tn d2 en c2 wa wc m t te tb pv wv1 wv2 pn nx => psOf C ts pa (.ref d2) m t na
  | .a4 n tn d2 en c2 wa wc n2 pr m t te tb tx pv wv1 wv2 pn nx => psOf C ts pa (.ref c2) m t n2
  | .a5 n tn d2 en c2 wa wc n2 pr ca e2 e3 m t te tb tx te3 tm pv wv1 wv2 pn nx => psOf C ts pa (.ref ca) m t n2
  | .a6 n tn n2 pr e2 e3 m e t tx te3 tm pv pn => psOf C ts pa (.ref e2) e t n2
  | .a7 n tn n2 pr m e t tx ty pv pn od lv ln => psOf C ts pa .none e t n2
/-- what lies on the pile: nothing, or the way that begins one further -/
noncomputable def PileOK (C : MC) (na d2 wa wc : Addr) (m : Int) (pv wv1 wv2 : List Value) (nx : Option Int) : Prop :=
  (nx = none ∧ pv = []) ∨ (∃ tq, nx = some (m + 1) ∧ m < C.S.length ∧ pv = [.ref wa] ∧ wv1 = [.ref wc, .int (m + 1) tq, .ref na] ∧ wv2 = [.ref C.l1, .ref d2])
noncomputable def isP (w : World) (C : MC) (l1 l2 : Leaf) (na : Addr) (R : Option (Int × Int)) : IS → Prop
  | .a0 n tn ca t pn => 0 ≤ n ∧ n ≤ 5 ∧ R = startR C.S l1 l2 C.b
  | .a1 n tn ca c2 t pn => 0 ≤ n ∧ n ≤ 6 ∧ R = startR C.S l1 l2 C.b
  | .a2 n tn ca d2 en c2 p t te tb pn => 0 ≤ n ∧ n ≤ 5 * (p - C.b) + 7 ∧ C.b ≤ p ∧ p ≤ C.S.length ∧ R = startR C.S l1 l2 p
  | .a3 n tn d2 en c2 wa wc m t te tb pv wv1 wv2 pn nx => 0 ≤ n ∧ n ≤ 5 * (m - C.b) + 8 ∧ C.b ≤ m ∧ m ≤ C.S.length ∧ PileOK C na d2 wa wc m pv wv1 wv2 nx ∧ R = tailR C.S l2 m nx ∧ (nx = none ∨ l1 = .arb)
  | .a4 n tn d2 en c2 wa wc n2 pr m t te tb tx pv wv1 wv2 pn nx => 0 ≤ n ∧ n ≤ 5 * (m - C.b) + 9 ∧ C.b ≤ m ∧ m ≤ C.S.length ∧ PileOK C na d2 wa wc m pv wv1 wv2 nx ∧ R = tailR C.S l2 m nx ∧ (nx = none ∨ l1 = .arb)
  | .a5 n tn d2 en c2 wa wc n2 pr ca e2 e3 m t te tb tx te3 tm pv wv1 wv2 pn nx => 0 ≤ n ∧ n ≤ 5 * (m - C.b) + 10 ∧ C.b ≤ m ∧ m ≤ C.S.length ∧ PileOK C na d2 wa wc m pv wv1 wv2 nx ∧ R = tailR C.S l2 m nx ∧ (nx = none ∨ l1 = .arb)
  | .a6 n tn n2 pr e2 e3 m e t tx te3 tm pv pn => 0 ≤ n ∧ n ≤ 5 * (m - C.b) + 11 ∧ C.b ≤ m ∧ m ≤ e ∧ e ≤ C.S.length ∧ R = some (m, e)
  | .a7 n tn n2 pr m e t tx ty pv pn od lv ln => 0 ≤ n ∧ C.b ≤ m ∧ m ≤ e ∧ e ≤ C.S.length ∧ R = some (m, e) ∧ od.IsDictOf (strKind PW w) [(Str.ofString "V", .str (Txt.slice C.S (some m) (some e)) ty)] ∧ V.FlatPairs PyData.str [(Str.ofString "V", .str (Txt.slice C.S (some m) (some e)) ty)] [(PyData.str (Str.ofString "V"), PyData.str (Txt.slice C.S (some m) (some e)))] ∧ lv.length ≤ C.lv.length + 1
noncomputable def isM : IS → Nat
  | .a0 .. => 7 | .a1 .. => 6 | .a2 .. => 5 | .a3 .. => 4 | .a4 .. => 3 | .a5 .. => 2 | .a6 .. => 1 | .a7 .. => 0
set_option genSizeOfSpec false in
set_option genInjectivity false in
inductive OS where
  | o0 (n : Int) (tn : Tok) (wa ca : Addr) (t : Tok) (pn : Nat)
  | oB (n : Int) (tn : Tok) (wa ca d2 en c2 : Addr) (p : Int) (t te tb : Tok) (pn : Nat)
  | oE (n : Int) (tn : Tok) (pn : Nat)
noncomputable def osLed (w : World) (C : MC) (na pa : Addr) : OS → Led
  | .o0 n tn wa ca t pn => [hD w C n tn, (pa, listOf [Value.ref wa].toArray pn), (wa, tup [.ref ca, .int C.b t, .ref na]), (ca, tup [.ref C.no, .none])] ++ vD C ++ fxL w C na
  | .oB n tn wa ca d2 en c2 p t te tb pn => [hD w C n tn, (pa, listOf [Value.ref wa].toArray pn), (wa, tup [.ref ca, .int p t, .ref na]), (ca, tup [.ref C.l1, .ref d2]), (d2, tup [.ref en, .ref c2]), (en, tup [.str (Str.ofString "end later") te, .ref C.wr, .int C.b tb]), (c2, tup [.ref C.f2, .none])] ++ vD C ++ fxL w C na
  | .oE n tn pn => [hD w C n tn, (pa, listOf ([] : List Value).toArray pn)] ++ vD C ++ fxL w C na
noncomputable def osP (C : MC) (l1 l2 : Leaf) (R : Option (Int × Int)) : OS → Prop
  | .o0 n tn wa ca t pn => 0 ≤ n ∧ n ≤ 5 ∧ R = startR C.S l1 l2 C.b
  | .oB n tn wa ca d2 en c2 p t te tb pn => 0 ≤ n ∧ n ≤ 5 * (p - C.b) + 7 ∧ C.b ≤ p ∧ p ≤ C.S.length ∧ R = startR C.S l1 l2 p
  | .oE n tn pn => 0 ≤ n ∧ R = none
noncomputable def osM (C : MC) : OS → Nat
  | .o0 .. => C.S.length + 3
  | .oB n tn wa ca d2 en c2 p t te tb pn => (C.S.length - p).toNat + 1
  | .oE .. => 0

noncomputable def whB : Stmt → List Stmt
  | .While (body := b) .. => b
  | _ => []
noncomputable def whOuter : Stmt := nth (bodOf (stAt 52)) 1
noncomputable def whInner : Stmt := nth (whB whOuter) 3
noncomputable abbrev envT (L : Addr) : Env := envOf (Str.ofString "tried") (scoOf (stAt 52)) L 404 (.ref 403)

/-- no outer state behind this stage is as far from the end -/
noncomputable def isX (C : MC) : IS → Nat
  | .a0 .. | .a1 .. => C.S.length + 3
  | .a2 n tn ca d2 en c2 p t te tb pn => (C.S.length - p).toNat + 1
  | .a3 n tn d2 en c2 wa wc m t te tb pv wv1 wv2 pn nx => (C.S.length - m).toNat + 1
  | .a4 n tn d2 en c2 wa wc n2 pr m t te tb tx pv wv1 wv2 pn nx => (C.S.length - m).toNat + 1
  | .a5 n tn d2 en c2 wa wc n2 pr ca e2 e3 m t te tb tx te3 tm pv wv1 wv2 pn nx => (C.S.length - m).toNat + 1
  | .a6 .. | .a7 .. => 0
end

section
theorem regMBe : (fun (_ : OpenLaw) (_ : Params → Frag) => True) PySem.Challenge.rw_sj0197_01 KF := by
  k_with_none
  k_with "m enter" => (
    (case k1 => exact B); (case k2 => exact X); (case k3 => exact T); (case k4 => exact st); (case k5 => exact sz); (case k6 => exact N)
    (case k7 => k_dflt k_is)
    (case hb => (conv => lhs; whnf))
    (case hs => (conv => lhs; whnf))
    (case k8 => k_dflt k_is)
    (case k9 => decide)
    (case k10 => exact BindsTo.of_eq rfl)
    (case k11 => exact locs rfl)
    (case c1 => exact rfl); (case c2 => exact rfl); (case c3 => exact rfl); (case c4 => decide)
    clear st sz N
    intro L h F N'
    (try dsimp only)
    (try k_fold))
  k_with "m end" => ((try k_unfold); (try dsimp only); refine' hret _ _ _ ?e1 ?e2 ?e3 ?e4; (case e1 => exact Fr.keep (by k_asm)); (case e4 => k_extra "m kept"))
  k_with "m kept" => (first | exact kept_nil | (refine' kept_tup ?ka ?kb ?kc; (case ka => k_asm); (case kb => k_mem); (case kc => k_extra "m kept")) | (refine' kept_not ?kd ?ke ?kf; (case kd => k_extra "m cls"); (case ke => decide); (case kf => k_extra "m kept")))
  k_with "m sub" => (first | exact subNil | exact subRefl | (refine' subStep ?su; (case su => k_extra "m sub")) | (refine' subUpS ?sk ?su; (case sk => ((fail_if_success (refine skipOf ?_; k_mem)); exact trivial)); (case su => k_extra "m sub")) | (refine' subCons ?sa ?sb; (case sa => k_mem); (case sb => k_extra "m sub")))
  k_with "m same" => (
    intro z h2 h3
    simp only [List.forall_mem_cons, List.not_mem_nil, false_implies, implies_true, and_true, ne_eq] at h2
    simp [kstB, h2])
  k_with "m same2" => (
    intro z h2 h3
    dsimp only [isPs, psOf] at h2
    simp only [List.forall_mem_cons, List.not_mem_nil, false_implies, implies_true, and_true, ne_eq] at h2
    simp only [List.contains_cons, List.contains_nil, Bool.or_false, Bool.or_eq_false_iff, beq_eq_false_iff_ne, ne_eq] at h3
    simp [kstB, h2, h3])
  k_with "m same3" => (
    intro z h2 h3
    simp only [List.forall_mem_cons, List.not_mem_nil, false_implies, implies_true, and_true, ne_eq] at h2
    simp only [List.contains_cons, List.contains_nil, Bool.or_false, beq_eq_false_iff_ne, ne_eq] at h3
    simp [kstB, h2, h3])
  k_with "m same4" => (
    intro z h2 h3
    simp only [List.forall_mem_cons, List.not_mem_nil, false_implies, implies_true, and_true, ne_eq] at h2
    simp only [List.contains_cons, List.contains_nil, Bool.or_false, Bool.or_eq_false_iff, beq_eq_false_iff_ne, ne_eq] at h3
    simp [kstB, h2, h3])
  k_with "m led" => (dsimp only [isLed, osLed, fxL, vD, hD, List.cons_append, List.nil_append]; k_extra "m sub")
  k_with "m ps" => (dsimp only [isPs, psOf]; kst_all)
  k_with "m all" => exact newsOut (by k_asm)
  k_with "m outA" => exact newsSub (by k_asm) (subApp (by k_extra "m sub"))
  k_with "m out" => exact newsSub (by k_asm) (by k_extra "m sub")
  k_with "m t1" => (first | with_reducible exact Take1.head | (refine' Take1.tail ?mt; (case mt => k_extra "m t1")))
  k_with "m take" => (first | exact TakeL.nil | (refine' TakeL.cons ?ma ?mb; (case ma => k_extra "m t1"); (case mb => k_extra "m take")))
  k_with "m cls" => (first | assumption | exact dict_cls (by assumption) | (conv => lhs; whnf))
  k_with "m nocell" => exact rfl
  k_with "m ne" => (first | assumption | (refine Ne.symm ?_; assumption) | (refine' ne_cls ?na ?nb ?nc ?nd ?nf ?ng; (case na => k_asm); (case nb => k_mem); (case nc => k_mem); (case nd => k_extra "m cls"); (case nf => k_extra "m cls"); (case ng => decide)) | (refine' ne_cell ?na ?nb ?nc ?nd ?nf; (case na => k_asm); (case nb => k_mem); (case nc => k_mem); (case nd => assumption); (case nf => k_extra "m nocell")) | (refine Ne.symm ?_; refine' ne_cell ?na ?nb ?nc ?nd ?nf; (case na => k_asm); (case nb => k_mem); (case nc => k_mem); (case nd => assumption); (case nf => k_extra "m nocell")) | (refine neN ?_; (try dsimp only); omega))
  k_with "m ne1" => (first | exact ne1_nil | (refine' ne1_tup ?nt ?nu; (case nt => first | exact rfl | assumption); (case nu => k_extra "m ne1")) | (refine' ne1_cls ?n1 ?n2 ?n3 ?n4; (case n1 => k_extra "m cls"); (case n2 => k_extra "m cls"); (case n3 => decide); (case n4 => k_extra "m ne1")) | (refine' ne1_cell ?n1 ?n2 ?n4; (case n1 => assumption); (case n2 => k_extra "m nocell"); (case n4 => k_extra "m ne1")) | (refine' ne1_cons ?nv ?nw; (case nv => k_extra "m ne"); (case nw => k_extra "m ne1")))
  k_with "m off" => (first | exact off_nil | k_extra "m offop" | (refine' off_consT ?oc ?ob; (case oc => first | exact rfl | assumption); (case ob => k_extra "m off")) | (refine' off_cons ?oa ?ob; (case oa => k_extra "m ne1"); (case ob => k_extra "m off")))
  k_with "m use" => (
    (case hA => exact rfl); (case hf => exact rfl); (case hk => exact rfl); (case hh => exact rfl)
    (case B => k_asm); (case F => k_asm); (case X => k_asm); (case T => k_asm); (case N => k_asm)
    (case hd => exact Nat.le_of_ble_eq_true rfl); (case hu => exact Nat.le_of_ble_eq_true rfl)
    (case tk => k_extra "m take")
    (case off => k_extra "m off"))
  k_with "call ref" => (k_here; k_dflt (k_extra "m call"))
  k_with "compareOp NotIn str ref" => (k_here; k_dflt (refine' notin_tuple_strs ?k1 ?k2 ?_; (case k1 => exact tupK (by k_in) (by k_is)); (case k2 => kde_strs); k_whole))
  k_with "compareOp In str ref" => (k_here; k_dflt (refine' in_tuple_strs ?k1 ?k2 ?_; (case k1 => exact tupK (by k_in) (by k_is)); (case k2 => kde_strs); k_whole))
  k_with "setItem ref str" => (k_here; k_dflt (refine' setItem_K PyProof.V.same_str (strKind_is _ _ _ _) ?v ?F ?N ?U ?d ?f ?_ ?z; (case F => k_asm); (case N => k_asm); (case U => k_updF); (case d => k_asm); (case f => k_asm); (case z => exact line_of_lenLe (n := 5) (by assumption) (by decide)); (case v => k_flat)); intro h' o' F' N' hd' hf'; (try dsimp only at N'); (try k_sweep))
  k_with "compareOp Eq ref str" => (k_here; k_dflt (refine' eq_tup_str ?k1 ?k2 ?k3 ?_; (case k1 => k_asm); (case k2 => k_mem); (case k3 => exact Nat.le_of_ble_eq_true rfl); k_whole))
  k_with "CompSrc" => (k_here; k_dflt (k_extra "m src"))
  k_with "CompEnd" => (k_here; k_extra "m compend")
  k_with "call builtin:sorted" => (k_here; k_dflt (k_extra "m sorted"))
  k_with "compareOp NotEq str str" => (k_here; k_extra "m neq")
  k_with "compareOp Eq str str" => (k_here; k_extra "m eqs")
  k_with "call builtin:str.join" => (k_here; k_dflt (k_extra "m join"))
  k_with "eval Lambda" => (k_here; k_dflt (k_extra "m lam"))
  k_with "compareOp NotEq int int" => (k_here; k_dflt (k_extra "m neqi"))
  k_with "compareOp NotEq ref ref" => (k_here; k_dflt (k_extra "m neqt"))
  k_with "call builtin:len" => (k_here; k_dflt (k_extra "m len"))
  k_with "binaryOp Add ref ref" => (k_here; k_dflt (k_extra "m addl"))
  k_with "eval ListComp" => (k_here; k_extra "m comp")
  k_with "subscriptTail" => (k_here; k_dflt (k_extra "m item"))
  k_with "execs cons" => (k_here; k_extra "m stmt")
  trivial
theorem enterK {w : World} {lo : List Str} {mean : ExcName → Option Value} {mg mb : Str → Option Value} {d u : Nat} {gd : Option (List Code)} {frs : List Env} {base g : Heap} {s : Shared} {pre : Led} {Q E : Value → Shared → Prop}
    {name qual : Str} {params : Arguments} {body body₀ : List Stmt} {scope scope₀ : Scope} {dV kV doc pm cdv ct oc : Value} {an od : Option Addr} {osl : Array (Option Value)} {f : Addr} {args : List Value} (binds : List (Str × Value))
    (B : Below (ARD d u gd frs) base frs g) (X : (KF w.params).In g) (T : Top topProg lo mean mg mb g) (st : g.StaysIn s.heap) (sz : g.objs.size ≤ s.heap.objs.size)
    (N : ∀ p ∈ pre, s.heap.get? p.1 = some p.2 ∧ g.get? p.1 = none)
    (ho : (KF w.params).lookup f = some ⟨oc, od, .func (fnOf name qual params body₀ scope₀ dV kV doc pm an cdv ct), osl⟩) (hb₀ : body₀ = body) (hs₀ : scope₀ = scope) (hcd : codeIn (KF w.params) cdv qual = true) (hroom : d < recursionLimit)
    (hbind : BindsTo s (fnOf name qual params body scope dV kV doc pm an cdv ct) ⟨args, []⟩ binds) (hkind : (binds.all fun y => scope.names.lookup y.1 == some .local || scope.names.lookup y.1 == some .cell) = true)
    (hnd : ((cellsFrom 0 scope.names []).map (·.1)).Nodup)
    (h : ∀ L' h₁ tk cells, Fr g L' h₁ (bindL (envOfC qual scope L' f cdv).kindOf binds fun _ => none) → News g L' h₁ (cells ++ pre) →
      CellsAre (bindC (envOfC qual scope L' f cdv).kindOf binds fun _ => none) (cellsFrom (L' + 1) scope.names []) cells → (∀ p ∈ pre, p.1 < L') →
      wpAny (model PW w) ((ARD d u gd frs).deeper (envOfC qual scope L' f cdv)) (execs body (envOfC qual scope L' f cdv))
        (fun fl s' => Q (match fl with | .ret v => v | _ => .none) s')
        (fun e s' => wpAny (model PW w) ((ARD d u gd frs).deeper (envOfC qual scope L' f cdv)) (leaving (envOfC qual scope L' f cdv) e) (fun _ s'' => E e s'') (fun e' s'' => E e' s'') s')
        { s with heap := h₁, toks := tk })
    (hco : scope.isCoroutine = false) (hgen : scope.isGenerator = false) (hk : scope.kind = .function) :
    wpAny (model PW w) (ARD d u gd frs) (call (.ref f) args) Q E s := by
  cases hb₀
  cases hs₀
  refine wpAny_call ?_
  refine codeAny_call_function hroom ((X.keeps st) _ _ ho) rfl hco hgen rfl (codeRec_of (X.keeps st) hcd) (hbind _ _ _ _ ?_)
  refine wpAny_newFunctionEnv_cells hk (kindsX hkind _) fun env' he s' x => ?_
  subst he
  refine ⟨(T.nolimit.keeps st).keeps x.toInCall.keep, codeAny_func ?_⟩
  obtain ⟨h₁, tk, rfl, _⟩ := x.done
  have hk₁ := x.toInCall.keep
  obtain ⟨cells, NC, Y⟩ := Cl.news (h₀ := s.heap) (Nat.le_refl _) fun n c hm => ⟨x.cell n c (lookup_of_mem_nodup (cellsFrom_names scope.names 0 (s.heap.objs.size + 1) [] [] rfl ▸ hnd) hm), x.above n c hm⟩
  refine h s.heap.objs.size h₁ tk cells ⟨x.toInCall.ns, fun b o e => hk₁ b o (st b o e), sz⟩ (fun p hp => ?_) Y (fun p hp => Heap.lt_size (N p hp).1)
  rcases List.mem_append.mp hp with hp | hp
  · refine ⟨(NC p hp).1, (NC p hp).2.1, ?_⟩
    cases q : g.get? p.1 with
    | none => rfl
    | some o => have := (NC p hp).2.2; rw [st _ _ q] at this; cases this
  · exact ⟨hk₁ _ _ (N p hp).1, Nat.ne_of_lt (Heap.lt_size (N p hp).1), (N p hp).2⟩
section
variable {prog : Program} {w : World} {A : Around} {E : Value → Shared → Prop} {s : Shared} {h₀ : Heap} {L : Addr} {m : Str → Option Value} {env : Env} {elt : PySem.Expr} {x : Str} {scope : Scope} {cl : List (Str × Addr)} {S : Led → Prop} {P : Nat → Value → Prop} {Fin : List Value → Led → Prop}
theorem comp_ind {n : Nat} (Inv : List Value → Led → Prop)
    (step : ∀ i v ys news, ys.length < n → Inv ys news → P i v → ∀ I oI C oC D m₂ h tk (E' : Value → Shared → Prop), LCg.NsObj oC m₂ → m₂ x = some v → Fr h₀ L h m → News h₀ L h ((I, oI) :: (C, oC) :: (D, LCg.lst ys) :: news) → LCg.Off3 I C D news → ((@Ne Nat I C) ∧ (@Ne Nat I D) ∧ (@Ne Nat C D)) →
      wpAny (model prog w) A (eval elt (compEnvC scope cl C env)) (LCg.CompEnd h₀ L m { s with heap := h, toks := tk } I oI C oC D (LCg.lst ys) S (fun y news' => Inv (ys ++ [y]) news')) E' { s with heap := h, toks := tk })
    (fin : ∀ ys news, Inv ys news → ys.length = n → Fin ys news) :
    ∀ k i ys news, ys.length + k = n → Inv ys news → LCg.CompRest prog w A h₀ L m env elt x scope cl s S P Fin k i ys news
  | 0, i, ys, news, e, h => LCg.CompRest.zero (fin ys news h e)
  | k + 1, i, ys, news, e, h => LCg.CompRest.succ fun v I oI C oC D m₂ h' tk E' hP hC hx F N o ne =>
      wpAny_mono (step i v ys news (by omega) h hP I oI C oC D m₂ h' tk E' hC hx F N o ne) (fun y s' ⟨a, b, c, d, f, g, l, q, r⟩ => ⟨a, b, c, d, f, g, l, q, comp_ind Inv step fin k (i + 1) (ys ++ [y]) c (by simp only [List.length_append, List.length_singleton]; omega) r⟩) fun _ _ e => e
theorem ints_snoc {v : Int} {t : Tok} : ∀ {vs : List Value} {ns : List Int}, IntsAre vs ns → IntsAre (vs ++ [.int v t]) (ns ++ [v])
  | _, _, .nil => .cons v t .nil
  | _, _, .cons a b h => .cons a b (ints_snoc h)
end
section
variable {prog : Program} {w : World} {A : Around} {E : Value → Shared → Prop} {s : Shared}
theorem str_ne_of {x y : Str} {t u : Tok} {Q : Value → Shared → Prop} (e : x = y) (h : Q (.bool false) s) : wpAny (model prog w) A (compareOp .NotEq (.str x t) (.str y u)) Q E s :=
  PyProof.Rows.ne_str (by rw [e, bne_self_eq_false]; exact h)
theorem str_eq_of {x y : Str} {t u : Tok} {Q : Value → Shared → Prop} (e : x = y) (h : Q (.bool true) s) : wpAny (model prog w) A (compareOp .Eq (.str x t) (.str y u)) Q E s :=
  PyProof.Rows.eq_str (by rw [e, beq_self_eq_true]; exact h)
end
inductive AptInv (cs : Led) (bx la : Addr) (W : Int) (ys : List Value) (news : Led) : Prop
  | mk (vs' : List Value) (xs' ns : List Int) (c' : Int) (tc' : Tok) (k' j' : Nat) (q0 : news = cs ++ [(bx, listOf [Value.ref la, .int c' tc'].toArray k'), (la, listOf vs'.toArray j')]) (q1 : IntsAre vs' xs') (q2 : vs'.length ≤ 60) (q3 : IntsAre ys ns) (q4 : (∀ n ∈ ns, 0 ≤ n ∧ n < W)) (q5 : 0 ≤ c') (q6 : c' < 900 + (ys.length : Int))
theorem four_of {vs : List Value} {ns : List Int} (h : IntsAre vs ns) (hl : ns.length = 4) : ∃ a b c d t1 t2 t3 t4, vs = [.int a t1, .int b t2, .int c t3, .int d t4] ∧ ns = [a, b, c, d] := by
  cases h with
  | nil => cases hl
  | cons a t1 h => cases h with
    | nil => cases hl
    | cons b t2 h => cases h with
      | nil => cases hl
      | cons c t3 h => cases h with
        | nil => cases hl
        | cons d t4 h => cases h with
          | nil => exact ⟨a, b, c, d, t1, t2, t3, t4, rfl, rfl⟩
          | cons e t5 h => simp at hl
theorem apart_spec {w : World} {lo : List Str} {mean mg mb} {bx la : Addr} {vs : List Value} {xs : List Int} {c : Int} {tc ts : Tok} {k j : Nat} {S : Str} (hi : IntsAre vs xs) (hc : 0 ≤ c) (hc2 : c < 900) (hx : vs.length ≤ 60) (hS : S.length < 100)
    (ne : @Ne Nat bx la) :
    Spec w lo mean mg mb 430 250 472 [.ref bx, .str S ts]
      [(bx, listOf [Value.ref la, .int c tc].toArray k), (la, listOf vs.toArray j)]
      (fun r post => r = .bool true ∧ post = []) := by
  intro gd frs base g s Q E B X T st sz N hret
  refine' enterK [(Str.ofString "box", .ref bx), (Str.ofString "subject", .str S ts)] ?k1 ?k2 ?k3 ?k4 ?k5 ?k6 ?k7 ?hb ?hs ?k8 ?k9 ?k10 ?k11 ?k12 ?_ ?c1 ?c2 ?c3
  (case k1 => exact B); (case k2 => exact X); (case k3 => exact T); (case k4 => exact st); (case k5 => exact sz); (case k6 => exact N)
  (case k7 => k_dflt k_is)
  (case hb => (conv => lhs; whnf))
  (case hs => (conv => lhs; whnf))
  (case k8 => k_dflt k_is)
  (case k9 => decide)
  (case k10 => exact BindsTo.of_eq rfl)
  (case k11 => rfl)
  (case k12 => decide)
  (case c1 => exact rfl); (case c2 => exact rfl); (case c3 => exact rfl)
  clear st sz N
  intro L h tk cells F N' Y l0
  k_cells Y
  rename_i oS oB d1 d2
  have F1 : Fr g L h (fun _ => none) := F
  have d3 : oS.data = .cell (some (.str S ts)) := d1
  have d4 : oB.data = .cell (some (.ref bx)) := d2
  have l1 : @LT.lt Nat _ bx L := l0 _ (.head _)
  have l2 : @LT.lt Nat _ la L := l0 _ (.tail _ (.head _))
  clear F d1 d2 l0
  dsimp only [List.cons_append, List.nil_append] at N'
  (try k_fold)
  k_with "m src" => (refine stopHere ?_)
  k_with "m compend" => (refine stopHere ?_)
  k_with "m sorted" => (refine stopHere ?_)
  k_with "m neq" => (refine' str_ne_of ?e ?_; (case e => with_reducible exact rfl); k_whole)
  k_with "m call" => (first
    | (refine' use_spec ?B ?F ?X ?T ?N ?hA ?hf ?hk ?hh ?hd ?hu (take_spec (W := (S.length : Int) + 1) ?p0 ?p1 ?p2 ?p3 ?p4 ?p5 ?p6) ?tk ?off ?_
       k_extra "m use"
       (case p0 => assumption); (case p1 => omega); (case p2 => omega); (case p3 => assumption); (case p4 => omega); (case p5 => assumption); (case p6 => assumption)
       k_whole
       rintro _ h' tk' _ F' N' ⟨v1, t1, tc1, vs1, xs1, k1, j1, hv1, hv2, hi1, hx1⟩ hO
       clear hO
       (try dsimp only [List.cons_append, List.nil_append] at N')
       (try dsimp only)
       (try k_fold))
    | (refine' use_spec ?B ?F ?X ?T ?N ?hA ?hf ?hk ?hh ?hd ?hu (spliced_spec ?p1 ?p2) ?tk ?off ?_
       k_extra "m use"
       (case p1 => first | omega | exact Nat.lt_of_le_of_lt (spl_len _ _ _ _) (by omega)); (case p2 => omega)
       k_whole
       rintro _ h' tk' _ F' N' ⟨t1, rfl, rfl⟩ hO
       clear hO
       (try dsimp only [List.cons_append, List.nil_append] at N')
       (try dsimp only)
       (try k_fold))
    | (refine' use_spec ?B ?F ?X ?T ?N ?hA ?hf ?hk ?hh ?hd ?hu (replaced_spec ?p1 ?p2) ?tk ?off ?_
       k_extra "m use"
       (case p1 => omega); (case p2 => omega)
       k_whole
       rintro _ h' tk' _ F' N' ⟨t1, rfl, rfl⟩ hO
       clear hO
       (try dsimp only [List.cons_append, List.nil_append] at N')
       (try dsimp only)
       (try k_fold)))
  k_steps
  unfold Stop
  refine LCg.CompSrc.range (n := 4) (by rfl) (by k_asm) (by k_asm) (by assumption) (by first | decide | rfl) (by first | rfl | decide) (by exact Nat.le_of_ble_eq_true rfl) ?_
  intro g'
  refine comp_ind (n := 4) (AptInv [(L + 1 + 1, oS), (L + 1, oB)] bx la ((S.length : Int) + 1)) ?_ ?_ 4 0 [] _ rfl ⟨vs, xs, [], c, tc, k, j, rfl, hi, hx, .nil, (fun _ h => nomatch h), hc, by simpa using hc2⟩
  · rintro i v ys news hlt ⟨vs', xs', ns, c', tc', k', j', rfl, hi', hx', hys, hns, hc0, hc3⟩ hP I oI C oC D m₂ h2 tk2 E' hC hx2 F2 N2 off ne2
    dsimp only [List.cons_append, List.nil_append] at N2 off
    simp only [LCg.Off3, and_true] at off
    obtain ⟨⟨f1, f2, f3⟩, ⟨f4, f5, f6⟩, ⟨f7, f8, f9⟩, f10, f11, f12⟩ := off
    have hc5 : c' < 1000 := by omega
    k_steps
    unfold Stop
    refine LCg.CompEnd.intro (by k_asm) (by k_asm) [(L + 1 + 1, oS), (L + 1, oB), (bx, _), (la, _)] (by lcg_sub) ⟨⟨f1, f2, f3⟩, ⟨f4, f5, f6⟩, ⟨f7, f8, f9⟩, ⟨f10, f11, f12⟩, trivial⟩ trivial ⟨vs1, xs1, ns ++ [v1], c' + 1, tc1, k1, j1, rfl, hi1, hx1, ints_snoc hys, ?_, by omega, ?_⟩
    · intro q hq
      rcases List.mem_append.mp hq with hq | hq
      · exact hns q hq
      · rw [List.mem_singleton.mp hq]; exact ⟨hv1, hv2⟩
    · simp only [List.length_append, List.length_singleton]; omega
  · rintro ys news ⟨vs', xs', ns, c', tc', k', j', rfl, hi', hx', hys, hns, hc0, hc3⟩ hl
    k_steps
    unfold Stop
    refine kso_sorted (by k_asm) (by k_asm) (by kso_list) hys (by rw [← IntsAre.length hys, hl]; decide) ?_
    intro D2 vs2 ns2 c2 h2 F2 N2 l3 hys2 hl2 hp hs _
    rw [← IntsAre.length hys, hl] at hl2
    obtain ⟨a, b, c4, d, u1, u2, u3, u4, rfl, rfl⟩ := four_of hys2 hl2
    have hb : ∀ n ∈ [a, b, c4, d], 0 ≤ n ∧ n < (S.length : Int) + 1 := fun n hn => hns n (hp.mem_iff.mp hn)
    simp only [List.forall_mem_cons] at hb
    simp only [List.pairwise_cons, List.forall_mem_cons] at hs
    have o1 : a ≤ b := hs.1.1
    have o2 : b ≤ c4 := hs.2.1.1
    have o3 : c4 ≤ d := hs.2.2.1.1
    have o4 : 0 ≤ a := hb.1.1
    have o5 : d < (S.length : Int) + 1 := hb.2.2.2.1.2
    clear hb hs hp hys2 hl2 hys hns hl hi' hx'
    have hy1 : (Str.ofString "yz").length = 2 := rfl
    have hy2 : (Str.ofString "w").length = 1 := rfl
    have hap := apart_law (S := S) (Y := Str.ofString "yz") (Z := Str.ofString "w") o4 o1 o2 o3 (by omega)
    rw [hy1] at hap
    k_steps
    (try k_unfold)
    (try dsimp only)
    refine hret _ _ _ (post := []) (Fr.keep (by k_asm)) (fun _ h => nomatch h) ⟨congrArg Value.bool (beq_iff_eq.mpr hap), rfl⟩ ?_
    exact kept_not (c := .type "list") rfl (by decide) (kept_not (c := .type "list") rfl (by decide) kept_nil)
end

section
theorem regMBo : (fun (_ : OpenLaw) (_ : Params → Frag) => True) PySem.Challenge.rw_sj0197_01 KF := by
  k_with_none
  k_with "m enter" => (
    (case k1 => exact B); (case k2 => exact X); (case k3 => exact T); (case k4 => exact st); (case k5 => exact sz); (case k6 => exact N)
    (case k7 => k_dflt k_is)
    (case hb => (conv => lhs; whnf))
    (case hs => (conv => lhs; whnf))
    (case k8 => k_dflt k_is)
    (case k9 => decide)
    (case k10 => exact BindsTo.of_eq rfl)
    (case k11 => exact locs rfl)
    (case c1 => exact rfl); (case c2 => exact rfl); (case c3 => exact rfl); (case c4 => decide)
    clear st sz N
    intro L h F N'
    (try dsimp only)
    (try k_fold))
  k_with "m end" => ((try k_unfold); (try dsimp only); refine' hret _ _ _ ?e1 ?e2 ?e3 ?e4; (case e1 => exact Fr.keep (by k_asm)); (case e4 => k_extra "m kept"))
  k_with "m kept" => (first | exact kept_nil | (refine' kept_tup ?ka ?kb ?kc; (case ka => k_asm); (case kb => k_mem); (case kc => k_extra "m kept")) | (refine' kept_not ?kd ?ke ?kf; (case kd => k_extra "m cls"); (case ke => decide); (case kf => k_extra "m kept")))
  k_with "m sub" => (first | exact subNil | exact subRefl | (refine' subStep ?su; (case su => k_extra "m sub")) | (refine' subUpS ?sk ?su; (case sk => ((fail_if_success (refine skipOf ?_; k_mem)); exact trivial)); (case su => k_extra "m sub")) | (refine' subCons ?sa ?sb; (case sa => k_mem); (case sb => k_extra "m sub")))
  k_with "m same" => (
    intro z h2 h3
    simp only [List.forall_mem_cons, List.not_mem_nil, false_implies, implies_true, and_true, ne_eq] at h2
    simp [kstB, h2])
  k_with "m same2" => (
    intro z h2 h3
    dsimp only [isPs, psOf] at h2
    simp only [List.forall_mem_cons, List.not_mem_nil, false_implies, implies_true, and_true, ne_eq] at h2
    simp only [List.contains_cons, List.contains_nil, Bool.or_false, Bool.or_eq_false_iff, beq_eq_false_iff_ne, ne_eq] at h3
    simp [kstB, h2, h3])
  k_with "m same3" => (
    intro z h2 h3
    simp only [List.forall_mem_cons, List.not_mem_nil, false_implies, implies_true, and_true, ne_eq] at h2
    simp only [List.contains_cons, List.contains_nil, Bool.or_false, beq_eq_false_iff_ne, ne_eq] at h3
    simp [kstB, h2, h3])
  k_with "m same4" => (
    intro z h2 h3
    simp only [List.forall_mem_cons, List.not_mem_nil, false_implies, implies_true, and_true, ne_eq] at h2
    simp only [List.contains_cons, List.contains_nil, Bool.or_false, Bool.or_eq_false_iff, beq_eq_false_iff_ne, ne_eq] at h3
    simp [kstB, h2, h3])
  k_with "m led" => (dsimp only [isLed, osLed, fxL, vD, hD, List.cons_append, List.nil_append]; k_extra "m sub")
  k_with "m ps" => (dsimp only [isPs, psOf]; kst_all)
  k_with "m all" => exact newsOut (by k_asm)
  k_with "m outA" => exact newsSub (by k_asm) (subApp (by k_extra "m sub"))
  k_with "m out" => exact newsSub (by k_asm) (by k_extra "m sub")
  k_with "m t1" => (first | with_reducible exact Take1.head | (refine' Take1.tail ?mt; (case mt => k_extra "m t1")))
  k_with "m take" => (first | exact TakeL.nil | (refine' TakeL.cons ?ma ?mb; (case ma => k_extra "m t1"); (case mb => k_extra "m take")))
  k_with "m cls" => (first | assumption | exact dict_cls (by assumption) | (conv => lhs; whnf))
  k_with "m nocell" => exact rfl
  k_with "m ne" => (first | assumption | (refine Ne.symm ?_; assumption) | (refine' ne_cls ?na ?nb ?nc ?nd ?nf ?ng; (case na => k_asm); (case nb => k_mem); (case nc => k_mem); (case nd => k_extra "m cls"); (case nf => k_extra "m cls"); (case ng => decide)) | (refine' ne_cell ?na ?nb ?nc ?nd ?nf; (case na => k_asm); (case nb => k_mem); (case nc => k_mem); (case nd => assumption); (case nf => k_extra "m nocell")) | (refine Ne.symm ?_; refine' ne_cell ?na ?nb ?nc ?nd ?nf; (case na => k_asm); (case nb => k_mem); (case nc => k_mem); (case nd => assumption); (case nf => k_extra "m nocell")) | (refine neN ?_; (try dsimp only); omega))
  k_with "m ne1" => (first | exact ne1_nil | (refine' ne1_tup ?nt ?nu; (case nt => first | exact rfl | assumption); (case nu => k_extra "m ne1")) | (refine' ne1_cls ?n1 ?n2 ?n3 ?n4; (case n1 => k_extra "m cls"); (case n2 => k_extra "m cls"); (case n3 => decide); (case n4 => k_extra "m ne1")) | (refine' ne1_cell ?n1 ?n2 ?n4; (case n1 => assumption); (case n2 => k_extra "m nocell"); (case n4 => k_extra "m ne1")) | (refine' ne1_cons ?nv ?nw; (case nv => k_extra "m ne"); (case nw => k_extra "m ne1")))
  k_with "m off" => (first | exact off_nil | k_extra "m offop" | (refine' off_consT ?oc ?ob; (case oc => first | exact rfl | assumption); (case ob => k_extra "m off")) | (refine' off_cons ?oa ?ob; (case oa => k_extra "m ne1"); (case ob => k_extra "m off")))
  k_with "m use" => (
    (case hA => exact rfl); (case hf => exact rfl); (case hk => exact rfl); (case hh => exact rfl)
    (case B => k_asm); (case F => k_asm); (case X => k_asm); (case T => k_asm); (case N => k_asm)
    (case hd => exact Nat.le_of_ble_eq_true rfl); (case hu => exact Nat.le_of_ble_eq_true rfl)
    (case tk => k_extra "m take")
    (case off => k_extra "m off"))
  k_with "call ref" => (k_here; k_dflt (k_extra "m call"))
  k_with "compareOp NotIn str ref" => (k_here; k_dflt (refine' notin_tuple_strs ?k1 ?k2 ?_; (case k1 => exact tupK (by k_in) (by k_is)); (case k2 => kde_strs); k_whole))
  k_with "compareOp In str ref" => (k_here; k_dflt (refine' in_tuple_strs ?k1 ?k2 ?_; (case k1 => exact tupK (by k_in) (by k_is)); (case k2 => kde_strs); k_whole))
  k_with "setItem ref str" => (k_here; k_dflt (refine' setItem_K PyProof.V.same_str (strKind_is _ _ _ _) ?v ?F ?N ?U ?d ?f ?_ ?z; (case F => k_asm); (case N => k_asm); (case U => k_updF); (case d => k_asm); (case f => k_asm); (case z => exact line_of_lenLe (n := 5) (by assumption) (by decide)); (case v => k_flat)); intro h' o' F' N' hd' hf'; (try dsimp only at N'); (try k_sweep))
  k_with "compareOp Eq ref str" => (k_here; k_dflt (refine' eq_tup_str ?k1 ?k2 ?k3 ?_; (case k1 => k_asm); (case k2 => k_mem); (case k3 => exact Nat.le_of_ble_eq_true rfl); k_whole))
  k_with "CompSrc" => (k_here; k_dflt (k_extra "m src"))
  k_with "CompEnd" => (k_here; k_extra "m compend")
  k_with "call builtin:sorted" => (k_here; k_dflt (k_extra "m sorted"))
  k_with "compareOp NotEq str str" => (k_here; k_extra "m neq")
  k_with "compareOp Eq str str" => (k_here; k_extra "m eqs")
  k_with "call builtin:str.join" => (k_here; k_dflt (k_extra "m join"))
  k_with "eval Lambda" => (k_here; k_dflt (k_extra "m lam"))
  k_with "compareOp NotEq int int" => (k_here; k_dflt (k_extra "m neqi"))
  k_with "compareOp NotEq ref ref" => (k_here; k_dflt (k_extra "m neqt"))
  k_with "call builtin:len" => (k_here; k_dflt (k_extra "m len"))
  k_with "binaryOp Add ref ref" => (k_here; k_dflt (k_extra "m addl"))
  k_with "eval ListComp" => (k_here; k_extra "m comp")
  k_with "subscriptTail" => (k_here; k_dflt (k_extra "m item"))
  k_with "execs cons" => (k_here; k_extra "m stmt")
  trivial
variable {fn0 : Addr}
noncomputable abbrev lamQ : Str := Str.ofString "law" ++ ".<locals>." ++ "<lambda>"
def IsCode (o : Obj) : Prop := ∃ (vs : Array Value) (t : Tok), o.data = .fields vs ∧ vs[1]? = some (.str lamQ t)
def OkO (o : Obj) : Prop := (∃ vs, o = tup vs) ∨ IsCode o
def OpT (op : Led) : Prop := ∀ p ∈ op, OkO p.2
abbrev noFields (o : Obj) : Bool := match o.data with | .fields _ => false | _ => true
theorem off_op {op pre : Led} (h : OpT op) (hn : ∀ q ∈ pre, noFields q.2 = true) : Off op pre := fun p hp q hq => by
  rcases h p hp with ⟨vs, e⟩ | ⟨vs, t, e, _⟩
  · by_cases hq' : q.2.cls = TUP
    · exact .inl hq'
    · exact .inr (.inl fun e' => hq' (by rw [← e', e]))
  · refine .inr (.inl fun e' => ?_)
    have := hn q hq
    unfold noFields at this
    rw [← e', e] at this
    cases this
theorem op_ne {g h : Heap} {L a : Addr} {o : Obj} {news op : Led} (N : News g L h news) (hm : (a, o) ∈ news) (hs : ∀ p ∈ op, p ∈ news) (ht : OpT op) (h1 : ∀ vs, o ≠ tup vs) (h2 : ¬ IsCode o) : ∀ p ∈ op, p.1 ≠ a := fun p hp e => by
  have h3 := (N p (hs p hp)).1
  have h4 := (N _ hm).1
  rw [e, h4] at h3
  have e1 := Option.some.inj h3
  rcases ht p hp with ⟨vs, ev⟩ | hc
  · exact h1 vs (e1.trans ev)
  · exact h2 (by have e2 : o = p.2 := e1; rw [e2]; exact hc)
theorem noCode {o : Obj} (h : noFields o = true) : ¬ IsCode o := by
  rintro ⟨vs, t, e, _⟩
  unfold noFields at h
  rw [e] at h
  cases h
theorem op_cls {g h : Heap} {L a : Addr} {o : Obj} {news op : Led} {c : Value} (N : News g L h news) (hm : (a, o) ∈ news) (hs : ∀ p ∈ op, p ∈ news) (ht : OpT op) (hc : o.cls = c) (hn : c ≠ TUP) (hf : noFields o = true) : ∀ p ∈ op, p.1 ≠ a :=
  op_ne N hm hs ht (fun vs e => hn (hc.symm.trans (congrArg Obj.cls e))) (noCode hf)
theorem op_cell {g h : Heap} {L a : Addr} {o : Obj} {news op : Led} {v : Option Value} (N : News g L h news) (hm : (a, o) ∈ news) (hs : ∀ p ∈ op, p ∈ news) (ht : OpT op) (hc : o.data = .cell v) : ∀ p ∈ op, p.1 ≠ a :=
  op_ne N hm hs ht (fun vs e => by rw [e] at hc; cases hc) (noCode (by unfold noFields; rw [hc]))
theorem op_tab {g h : Heap} {L a : Addr} {ps : Array Value} {news op : Led} (N : News g L h news) (hm : (a, tabObj ps) ∈ news) (hs : ∀ p ∈ op, p ∈ news) (ht : OpT op) (hp : ∀ t, ps[1]? ≠ some (.str lamQ t)) : ∀ p ∈ op, p.1 ≠ a :=
  op_ne N hm hs ht (fun vs e => by have := congrArg Obj.cls e; cases this) (fun ⟨vs, t, e, q⟩ => by cases e; exact hp t q)
theorem OpT.append {a b : Led} (h : OpT a) (h' : OpT b) : OpT (a ++ b) := fun p hp => (List.mem_append.mp hp).elim (h p) (h' p)
theorem OpT.cons {a : Addr} {o : Obj} {b : Led} (h : OkO o) (h' : OpT b) : OpT ((a, o) :: b) := fun p hp => by
  cases hp with
  | head => exact h
  | tail _ hp => exact h' p hp
inductive SplitT (op : Led) : Led → Led → Prop
  | nil : SplitT op op []
  | cons {p l mid} : SplitT op l mid → SplitT op (p :: l) (p :: mid)
theorem SplitT.eq {op l mid : Led} (h : SplitT op l mid) : l = mid ++ op := by
  induction h with
  | nil => rfl
  | cons _ ih => rw [ih]; rfl
def TabA (ps : Array Value) (op : Led) : Prop := ps = #[] ∨ ∃ c1 o1 c2 o2, ps = #[rawInt 333, rawInt 29, .ref c1, rawInt 333, rawInt 131, .ref c2] ∧ (c1, o1) ∈ op ∧ IsCode o1 ∧ (c2, o2) ∈ op ∧ IsCode o2
def TabB (ps : Array Value) (op : Led) (c1 : Addr) : Prop := ∃ o1, (c1, o1) ∈ op ∧ IsCode o1 ∧ (ps = #[rawInt 333, rawInt 29, .ref c1] ∨ ∃ c2 o2, ps = #[rawInt 333, rawInt 29, .ref c1, rawInt 333, rawInt 131, .ref c2] ∧ (c2, o2) ∈ op ∧ IsCode o2)
def TabF (ps : Array Value) (op : Led) (c1 c2 : Addr) : Prop := ∃ o1 o2, ps = #[rawInt 333, rawInt 29, .ref c1, rawInt 333, rawInt 131, .ref c2] ∧ (c1, o1) ∈ op ∧ IsCode o1 ∧ (c2, o2) ∈ op ∧ IsCode o2
theorem TabF.A {ps op c1 c2} (h : TabF ps op c1 c2) : TabA ps op := by obtain ⟨o1, o2, h⟩ := h; exact .inr ⟨c1, o1, c2, o2, h⟩
theorem tab_sub {g h : Heap} {L : Addr} {news rest mid op : Led} {ps : Array Value} (N : News g L h news) (tk : TakeL [((474 : Addr), tabObj ps)] news rest) (sp : SplitT op rest mid) : News g L h ((474, tabObj ps) :: (mid ++ op)) := by
  cases sp.eq
  intro p hp
  cases hp with
  | head => exact N _ (tk.mem _ (.head _))
  | tail _ hp => exact N _ (tk.sub _ hp)
abbrev notTab (o : Obj) : Bool := match o.data with | .fields _ => (match o.cls with | .none => false | _ => true) | _ => true
theorem nt_cell {o : Obj} {v : Option Value} (h : o.data = .cell v) : notTab o = true := by unfold notTab; rw [h]
theorem nt_dict {prog : Program} {w : World} {K : Type} [DecidableEq K] {knd : KeyKind prog w K} {o : Obj} {kvs : List (K × Value)} (h : o.IsDictOf knd kvs) : notTab o = true := by
  obtain ⟨es, ep, _, hd, _⟩ := h
  unfold notTab
  rw [hd]
theorem nt_ne {g h : Heap} {L : Addr} {mid op : Led} {ps : Array Value} (N : News g L h ((474, tabObj ps) :: (mid ++ op))) (hnt : ∀ p ∈ mid, notTab p.2 = true) : ∀ p ∈ mid, p.1 ≠ 474 := fun p hp e => by
  have h1 := (N p (.tail _ (List.mem_append_left _ hp))).1
  have h2 := (N _ (.head _)).1
  rw [e, h2] at h1
  have := hnt p hp
  rw [← Option.some.inj h1] at this
  cases this
theorem lam1 {w : World} {lo : List Str} {mean mg mb} {g : Heap} {L : Addr} {m : Str → Option Value} {s : Shared} {news rest mid op : Led} {ps : Array Value} {Q : Value → Shared → Prop} {E : Value → Shared → Prop} {A : Around} {params : Arguments} {body : PySem.Expr} {scope : Scope} {q1 q2 : Nat} {clos : List (Str × Addr)}
    (F : Fr g L s.heap m) (T : Top topProg lo mean mg mb g) (C : CodeHd g 476 474) (N : News g L s.heap news) (tk : TakeL [((474 : Addr), tabObj ps)] news rest) (sp : SplitT op rest mid) (hnt : ∀ p ∈ mid, notTab p.2 = true) (hop : OpT op) (hA : TabA ps op)
    (hdef : defaultsOf params (lawEnv L fn0) = ([], [])) (hcl : closureFor scope (lawEnv L fn0) = pure clos)
    (h : ∀ f c1 ctv h' tk' ps' op', Fr g L h' m → News g L h' ((f, kla_obj "<lambda>" lamQ params body scope clos ((mg "__name__").getD .none) c1 ctv) :: (474, tabObj ps') :: (mid ++ op')) → OpT op' → (∀ p ∈ op, p ∈ op') → TabB ps' op' c1 → (∀ p ∈ mid, p.1 < f) → Q (.ref f) { s with heap := h', toks := tk' }) :
    wpAny (model PW w) A (eval (.Lambda params body scope ⟨333, 29, q1, q2⟩) (lawEnv L fn0)) Q E s := by
  have N2 := tab_sub N tk sp
  have hne := nt_ne N2 hnt
  refine kla_eval hdef ?_
  rcases hA with rfl | ⟨c1, o1, c2, o2, rfl, m1, i1, m2, i2⟩
  · have hn : ∀ p ∈ mid ++ op, p.1 ≠ 474 := fun p hp => (List.mem_append.mp hp).elim (hne p) (op_tab N2 (.head _) (fun p hp => .tail _ (List.mem_append_right _ hp)) hop (by intro t e; cases e) p)
    refine kla_nest F N2 T C rfl (.head hn) trivial rfl hcl ?_
    intro f c' oc vs t ctv h' tk' F' N' d1 d2 l1 l2
    have hc : IsCode oc := ⟨vs, t, d1, d2⟩
    refine h f c' ctv h' tk' _ ((c', oc) :: op) F' (newsSub2 N' fun p hp => ?_) (hop.cons (.inr hc)) (fun p hp => .tail _ hp) ⟨oc, .head _, hc, .inl rfl⟩ (fun p hp => Nat.lt_trans (l1 p (.tail _ (List.mem_append_left _ hp))) l2)
    cases hp with
    | head => exact .head _
    | tail _ hp =>
      cases hp with
      | head => exact .tail _ (.tail _ (.head _))
      | tail _ hp =>
        rcases List.mem_append.mp hp with hp | hp
        · exact .tail _ (.tail _ (.tail _ (List.mem_append_left _ hp)))
        · cases hp with
          | head => exact .tail _ (.head _)
          | tail _ hp => exact .tail _ (.tail _ (.tail _ (List.mem_append_right _ hp)))
  · refine kla_hit (ps := #[rawInt 333, rawInt 29, .ref c1, rawInt 333, rawInt 131, .ref c2]) F N2 T C rfl (.head _) trivial rfl hcl ?_
    intro f ctv h' tk' F' N' l1
    exact h f c1 ctv h' tk' _ op F' N' hop (fun p hp => hp) ⟨o1, m1, i1, .inr ⟨c2, o2, rfl, m2, i2⟩⟩ (fun p hp => l1 p (.tail _ (List.mem_append_left _ hp)))
theorem lam2 {w : World} {lo : List Str} {mean mg mb} {g : Heap} {L c1 : Addr} {m : Str → Option Value} {s : Shared} {news rest mid op : Led} {ps : Array Value} {Q : Value → Shared → Prop} {E : Value → Shared → Prop} {A : Around} {params : Arguments} {body : PySem.Expr} {scope : Scope} {q1 q2 : Nat} {clos : List (Str × Addr)}
    (F : Fr g L s.heap m) (T : Top topProg lo mean mg mb g) (C : CodeHd g 476 474) (N : News g L s.heap news) (tk : TakeL [((474 : Addr), tabObj ps)] news rest) (sp : SplitT op rest mid) (hnt : ∀ p ∈ mid, notTab p.2 = true) (hop : OpT op) (hA : TabB ps op c1)
    (hdef : defaultsOf params (lawEnv L fn0) = ([], [])) (hcl : closureFor scope (lawEnv L fn0) = pure clos)
    (h : ∀ f c2 ctv h' tk' ps' op', Fr g L h' m → News g L h' ((f, kla_obj "<lambda>" lamQ params body scope clos ((mg "__name__").getD .none) c2 ctv) :: (474, tabObj ps') :: (mid ++ op')) → OpT op' → (∀ p ∈ op, p ∈ op') → TabF ps' op' c1 c2 → (∀ p ∈ mid, p.1 < f) → Q (.ref f) { s with heap := h', toks := tk' }) :
    wpAny (model PW w) A (eval (.Lambda params body scope ⟨333, 131, q1, q2⟩) (lawEnv L fn0)) Q E s := by
  have N2 := tab_sub N tk sp
  have hne := nt_ne N2 hnt
  refine kla_eval hdef ?_
  obtain ⟨o1, m1, i1, rfl | ⟨c2, o2, rfl, m2, i2⟩⟩ := hA
  · have hn : ∀ p ∈ mid ++ op, p.1 ≠ 474 := fun p hp => (List.mem_append.mp hp).elim (hne p) (op_tab N2 (.head _) (fun p hp => .tail _ (List.mem_append_right _ hp)) hop (by intro t e; cases e) p)
    refine kla_nest F N2 T C rfl (.head hn) trivial rfl hcl ?_
    intro f c' oc vs t ctv h' tk' F' N' d1 d2 l1 l2
    have hc : IsCode oc := ⟨vs, t, d1, d2⟩
    refine h f c' ctv h' tk' _ ((c', oc) :: op) F' (newsSub2 N' fun p hp => ?_) (hop.cons (.inr hc)) (fun p hp => .tail _ hp) ⟨o1, oc, rfl, .tail _ m1, i1, .head _, hc⟩ (fun p hp => Nat.lt_trans (l1 p (.tail _ (List.mem_append_left _ hp))) l2)
    cases hp with
    | head => exact .head _
    | tail _ hp =>
      cases hp with
      | head => exact .tail _ (.tail _ (.head _))
      | tail _ hp =>
        rcases List.mem_append.mp hp with hp | hp
        · exact .tail _ (.tail _ (.tail _ (List.mem_append_left _ hp)))
        · cases hp with
          | head => exact .tail _ (.head _)
          | tail _ hp => exact .tail _ (.tail _ (.tail _ (List.mem_append_right _ hp)))
  · refine kla_hit (ps := #[rawInt 333, rawInt 29, .ref c1, rawInt 333, rawInt 131, .ref c2]) F N2 T C rfl (.head _) trivial rfl hcl ?_
    intro f ctv h' tk' F' N' l1
    exact h f c2 ctv h' tk' _ op F' N' hop (fun p hp => hp) ⟨o1, o2, rfl, m1, i1, m2, i2⟩ (fun p hp => l1 p (.tail _ (List.mem_append_left _ hp)))
end

section
theorem regMBv : (fun (_ : OpenLaw) (_ : Params → Frag) => True) PySem.Challenge.rw_sj0197_01 KF := by
  k_with_none
  k_with "m enter" => (
    (case k1 => exact B); (case k2 => exact X); (case k3 => exact T); (case k4 => exact st); (case k5 => exact sz); (case k6 => exact N)
    (case k7 => k_dflt k_is)
    (case hb => (conv => lhs; whnf))
    (case hs => (conv => lhs; whnf))
    (case k8 => k_dflt k_is)
    (case k9 => decide)
    (case k10 => exact BindsTo.of_eq rfl)
    (case k11 => exact locs rfl)
    (case c1 => exact rfl); (case c2 => exact rfl); (case c3 => exact rfl); (case c4 => decide)
    clear st sz N
    intro L h F N'
    (try dsimp only)
    (try k_fold))
  k_with "m end" => ((try k_unfold); (try dsimp only); refine' hret _ _ _ ?e1 ?e2 ?e3 ?e4; (case e1 => exact Fr.keep (by k_asm)); (case e4 => k_extra "m kept"))
  k_with "m kept" => (first | exact kept_nil | (refine' kept_tup ?ka ?kb ?kc; (case ka => k_asm); (case kb => k_mem); (case kc => k_extra "m kept")) | (refine' kept_not ?kd ?ke ?kf; (case kd => k_extra "m cls"); (case ke => decide); (case kf => k_extra "m kept")))
  k_with "m sub" => (first | exact subNil | exact subRefl | (refine' subStep ?su; (case su => k_extra "m sub")) | (refine' subUpS ?sk ?su; (case sk => ((fail_if_success (refine skipOf ?_; k_mem)); exact trivial)); (case su => k_extra "m sub")) | (refine' subCons ?sa ?sb; (case sa => k_mem); (case sb => k_extra "m sub")))
  k_with "m same" => (
    intro z h2 h3
    simp only [List.forall_mem_cons, List.not_mem_nil, false_implies, implies_true, and_true, ne_eq] at h2
    simp [kstB, h2])
  k_with "m same2" => (
    intro z h2 h3
    dsimp only [isPs, psOf] at h2
    simp only [List.forall_mem_cons, List.not_mem_nil, false_implies, implies_true, and_true, ne_eq] at h2
    simp only [List.contains_cons, List.contains_nil, Bool.or_false, Bool.or_eq_false_iff, beq_eq_false_iff_ne, ne_eq] at h3
    simp [kstB, h2, h3])
  k_with "m same3" => (
    intro z h2 h3
    simp only [List.forall_mem_cons, List.not_mem_nil, false_implies, implies_true, and_true, ne_eq] at h2
    simp only [List.contains_cons, List.contains_nil, Bool.or_false, beq_eq_false_iff_ne, ne_eq] at h3
    simp [kstB, h2, h3])
  k_with "m same4" => (
    intro z h2 h3
    simp only [List.forall_mem_cons, List.not_mem_nil, false_implies, implies_true, and_true, ne_eq] at h2
    simp only [List.contains_cons, List.contains_nil, Bool.or_false, Bool.or_eq_false_iff, beq_eq_false_iff_ne, ne_eq] at h3
    simp [kstB, h2, h3])
  k_with "m led" => (dsimp only [isLed, osLed, fxL, vD, hD, List.cons_append, List.nil_append]; k_extra "m sub")
  k_with "m ps" => (dsimp only [isPs, psOf]; kst_all)
  k_with "m all" => exact newsOut (by k_asm)
  k_with "m outA" => exact newsSub (by k_asm) (subApp (by k_extra "m sub"))
  k_with "m out" => exact newsSub (by k_asm) (by k_extra "m sub")
  k_with "m t1" => (first | with_reducible exact Take1.head | (refine' Take1.tail ?mt; (case mt => k_extra "m t1")))
  k_with "m take" => (first | exact TakeL.nil | (refine' TakeL.cons ?ma ?mb; (case ma => k_extra "m t1"); (case mb => k_extra "m take")))
  k_with "m cls" => (first | assumption | exact dict_cls (by assumption) | (conv => lhs; whnf))
  k_with "m nocell" => exact rfl
  k_with "m ne" => (first | assumption | (refine Ne.symm ?_; assumption) | (refine' ne_cls ?na ?nb ?nc ?nd ?nf ?ng; (case na => k_asm); (case nb => k_mem); (case nc => k_mem); (case nd => k_extra "m cls"); (case nf => k_extra "m cls"); (case ng => decide)) | (refine' ne_cell ?na ?nb ?nc ?nd ?nf; (case na => k_asm); (case nb => k_mem); (case nc => k_mem); (case nd => assumption); (case nf => k_extra "m nocell")) | (refine Ne.symm ?_; refine' ne_cell ?na ?nb ?nc ?nd ?nf; (case na => k_asm); (case nb => k_mem); (case nc => k_mem); (case nd => assumption); (case nf => k_extra "m nocell")) | (refine neN ?_; (try dsimp only); omega))
  k_with "m ne1" => (first | exact ne1_nil | (refine' ne1_tup ?nt ?nu; (case nt => first | exact rfl | assumption); (case nu => k_extra "m ne1")) | (refine' ne1_cls ?n1 ?n2 ?n3 ?n4; (case n1 => k_extra "m cls"); (case n2 => k_extra "m cls"); (case n3 => decide); (case n4 => k_extra "m ne1")) | (refine' ne1_cell ?n1 ?n2 ?n4; (case n1 => assumption); (case n2 => k_extra "m nocell"); (case n4 => k_extra "m ne1")) | (refine' ne1_cons ?nv ?nw; (case nv => k_extra "m ne"); (case nw => k_extra "m ne1")))
  k_with "m off" => (first | exact off_nil | k_extra "m offop" | (refine' off_consT ?oc ?ob; (case oc => first | exact rfl | assumption); (case ob => k_extra "m off")) | (refine' off_cons ?oa ?ob; (case oa => k_extra "m ne1"); (case ob => k_extra "m off")))
  k_with "m use" => (
    (case hA => exact rfl); (case hf => exact rfl); (case hk => exact rfl); (case hh => exact rfl)
    (case B => k_asm); (case F => k_asm); (case X => k_asm); (case T => k_asm); (case N => k_asm)
    (case hd => exact Nat.le_of_ble_eq_true rfl); (case hu => exact Nat.le_of_ble_eq_true rfl)
    (case tk => k_extra "m take")
    (case off => k_extra "m off"))
  k_with "call ref" => (k_here; k_dflt (k_extra "m call"))
  k_with "compareOp NotIn str ref" => (k_here; k_dflt (refine' notin_tuple_strs ?k1 ?k2 ?_; (case k1 => exact tupK (by k_in) (by k_is)); (case k2 => kde_strs); k_whole))
  k_with "compareOp In str ref" => (k_here; k_dflt (refine' in_tuple_strs ?k1 ?k2 ?_; (case k1 => exact tupK (by k_in) (by k_is)); (case k2 => kde_strs); k_whole))
  k_with "setItem ref str" => (k_here; k_dflt (refine' setItem_K PyProof.V.same_str (strKind_is _ _ _ _) ?v ?F ?N ?U ?d ?f ?_ ?z; (case F => k_asm); (case N => k_asm); (case U => k_updF); (case d => k_asm); (case f => k_asm); (case z => exact line_of_lenLe (n := 5) (by assumption) (by decide)); (case v => k_flat)); intro h' o' F' N' hd' hf'; (try dsimp only at N'); (try k_sweep))
  k_with "compareOp Eq ref str" => (k_here; k_dflt (refine' eq_tup_str ?k1 ?k2 ?k3 ?_; (case k1 => k_asm); (case k2 => k_mem); (case k3 => exact Nat.le_of_ble_eq_true rfl); k_whole))
  k_with "CompSrc" => (k_here; k_dflt (k_extra "m src"))
  k_with "CompEnd" => (k_here; k_extra "m compend")
  k_with "call builtin:sorted" => (k_here; k_dflt (k_extra "m sorted"))
  k_with "compareOp NotEq str str" => (k_here; k_extra "m neq")
  k_with "compareOp Eq str str" => (k_here; k_extra "m eqs")
  k_with "call builtin:str.join" => (k_here; k_dflt (k_extra "m join"))
  k_with "eval Lambda" => (k_here; k_dflt (k_extra "m lam"))
  k_with "compareOp NotEq int int" => (k_here; k_dflt (k_extra "m neqi"))
  k_with "compareOp NotEq ref ref" => (k_here; k_dflt (k_extra "m neqt"))
  k_with "call builtin:len" => (k_here; k_dflt (k_extra "m len"))
  k_with "binaryOp Add ref ref" => (k_here; k_dflt (k_extra "m addl"))
  k_with "eval ListComp" => (k_here; k_extra "m comp")
  k_with "subscriptTail" => (k_here; k_dflt (k_extra "m item"))
  k_with "execs cons" => (k_here; k_extra "m stmt")
  trivial
theorem adv_arbO {w : World} {lo : List Str} {mean mg mb} {S : Str} {ts : Tok} {i : Int} {ti : Tok} {ca ha na pa hs : Addr} {rest : Value} {vs : List Value} {n : Nat} {o : Obj} (ho : LeafObj o .arb) (h3 : S.length < 200) (h0 : 0 ≤ i) (h1 : i ≤ S.length) (hv : vs.length < 10) :
    Spec w lo mean mg mb 550 1500 411 [.ref ca, .int i ti, .ref na, .str S ts, .ref pa, .ref hs] [(ca, tup [.ref ha, rest]), (ha, o), (pa, listOf vs.toArray n)]
      (fun r post => ∃ ra : Addr, r = .ref ra ∧ ((i < S.length ∧ ∃ (wa c1 : Addr) (t : Tok), post = [(ra, tup [rest, .int i ti, .ref na]), (wa, tup [.ref c1, .int (i + 1) t, .ref na]), (c1, tup [.ref ha, rest]), (ha, o), (pa, listOf (vs ++ [Value.ref wa]).toArray (n + 1)), (ca, tup [.ref ha, rest])]) ∨
        (¬ i < S.length ∧ post = [(ra, tup [rest, .int i ti, .ref na]), (ha, o), (pa, listOf vs.toArray n), (ca, tup [.ref ha, rest])]))) := by
  obtain ⟨t1, rfl⟩ := ho
  exact adv_arb h3 h0 h1 hv
noncomputable def whTest : PySem.Expr := match whInner with
  | .While t _ _ _ => t
  | _ => .Constant .none 0 ⟨0, 0, 0, 0⟩
noncomputable def whBody : List Stmt := whB whInner
/-- what a way's call hands back, and where the turn ends -/
inductive AdvRes (w : World) (C : MC) (ts : Tok) (lf1 lf2 : Leaf) (g : Heap) (L na pa : Addr) (R : Option (Int × Int)) (s : Shared) (m : Str → Option Value) (c₀ c : IS) : Value → Shared → Prop
  | none {h' : Heap} {tk' : Nat} {led' : Led} (o : OS) (F : Fr g L h' m) (N : News g L h' led') (h1 : osP C lf1 lf2 R o) (h2 : osM C o < isX C c₀) (h3 : ∀ p ∈ osLed w C na pa o, p ∈ led') : AdvRes w C ts lf1 lf2 g L na pa R s m c₀ c .none { s with heap := h', toks := tk' }
  | some {h' : Heap} {tk' : Nat} {led' : Led} {ra : Addr} {ch : Value} {a : Int} {t : Tok} {nm' : Addr} (c' : IS) (F : Fr g L h' m) (N : News g L h' led') (hm : (ra, tup [ch, .int a t, .ref nm']) ∈ led') (h1 : isPs C na ts pa c' = psOf C ts pa ch a t nm') (h2 : ∀ p ∈ isLed w C na pa c', p ∈ led') (h3 : isP w C lf1 lf2 na R c' ∧ isX C c' ≤ isX C c₀) (h4 : isM c' < isM c) : AdvRes w C ts lf1 lf2 g L na pa R s m c₀ c (.ref ra) { s with heap := h', toks := tk' }
/-- one turn of the inner loop, whatever the way is: what the call hands back tells where it ends -/
theorem in_turn {w : World} {lo : List Str} {mean mg mb} {C : MC} {ts : Tok} {lf1 lf2 : Leaf} {gd : Option (List Code)} {frs : List Env} {base g : Heap} {L na pa ca nm : Addr} {R : Option (Int × Int)} {s : Shared} {h : Heap} {tk : Nat} {m₀ mm : Str → Option Value} {Q : Flow → Shared → Prop} {E : Value → Shared → Prop} {c₀ c : IS} {n i : Int} {tn ti : Tok} {led0 rest0 : Led}
    (B : Below (ARD 540 1400 gd frs) base frs g) (X : (KF w.params).In g) (T : Top topProg lo mean mg mb g)
    (F : Fr g L h (kstB (fun z => if [Str.ofString "way"].contains z then mm z else m₀ z) (psOf C ts pa (.ref ca) i ti nm))) (N : News g L h led0)
    (tk0 : TakeL [(C.hs, instObj 229 C.hd), hD w C n tn] led0 rest0) (off0 : Off rest0 [(C.hs, instObj 229 C.hd), hD w C n tn]) (hn0 : 0 ≤ n) (hn1 : n < 999)
    (adv : ∀ {t9 : Tok} {h : Heap} {tk : Nat} {E' : Value → Shared → Prop}, Fr g L h (kstB (fun z => if [Str.ofString "way"].contains z then mm z else m₀ z) (psOf C ts pa (.ref ca) i ti nm)) → News g L h ((C.hs, instObj 229 C.hd) :: hD w C (n + 1) t9 :: rest0) →
      wpAny (model PW w) ((ARD 540 1400 gd frs).deeper (envT L)) (call (.ref 411) [.ref ca, .int i ti, .ref nm, .str C.S ts, .ref pa, .ref C.hs]) (AdvRes w C ts lf1 lf2 g L na pa R s (kstB (fun z => if [Str.ofString "way"].contains z then mm z else m₀ z) (psOf C ts pa (.ref ca) i ti nm)) c₀ c) E' { s with heap := h, toks := tk })
    (retE : ∀ (o : OS) (ca nm : Addr) (m : Int) (t : Tok), osP C lf1 lf2 R o → osM C o < isX C c₀ → ∀ (u : Str → Option Value) h tk, Fr g L h (kstB (fun z => if [Str.ofString "way"].contains z then u z else m₀ z) (psOf C ts pa (.ref ca) m t nm)) →
      News g L h (osLed w C na pa o) → Q .next { s with heap := h, toks := tk }) :
    wpAny (model PW w) ((ARD 540 1400 gd frs).deeper (envT L)) (isTrue whTest (envT L) (eval whTest (envT L))) (fun b s₂ => if b = true then wpAny (model PW w) ((ARD 540 1400 gd frs).deeper (envT L)) (execs whBody (envT L)) (KswPost g L s (isLed w C na pa) (isPs C na ts pa) (fun _ => True) [Str.ofString "way"] m₀ (fun c => isP w C lf1 lf2 na R c ∧ isX C c ≤ isX C c₀) isM Q c) E s₂ else Q .next s₂) E { s with heap := h, toks := tk } := by
  unfold envT at adv ⊢
  generalize hs : scoOf (stAt 52) = sc at adv ⊢
  (conv at hs => lhs; whnf)
  subst hs
  generalize hb : whBody = bd
  (conv at hb => lhs; whnf)
  subst hb
  generalize hc : whTest = te
  (conv at hc => lhs; whnf)
  subst hc
  dsimp only [psOf] at F adv
  replace N : News g L h ((C.hs, instObj 229 C.hd) :: hD w C n tn :: rest0) := newsSub2 N (subCons (tk0.mem _ (.head _)) (subCons (tk0.mem _ (.tail _ (.head _))) (fun p hp => tk0.sub p hp)))
  k_with "m call" => (
    refine' use_spec ?B ?F ?X ?T ?N ?hA ?hf ?hk ?hh ?hd ?hu (step_spec hn0 hn1) (.cons .head (.cons .head .nil)) off0 ?_
    (case hA => exact rfl); (case hf => exact rfl); (case hk => exact rfl); (case hh => exact rfl)
    (case B => k_asm); (case F => k_asm); (case X => k_asm); (case T => k_asm); (case N => k_asm)
    (case hd => exact Nat.le_of_ble_eq_true rfl); (case hu => exact Nat.le_of_ble_eq_true rfl)
    k_whole
    rintro _ h' tk' _ F' N' ⟨t9, rfl, rfl⟩ hO
    clear hO
    (try dsimp only [List.cons_append, List.nil_append] at N')
    (try dsimp only)
    (try k_fold))
  k_with "m call" => (
    refine' wpAny_mono (adv ?aF ?aN) ?am ?ae
    (case aF => k_asm); (case aN => k_asm); (case ae => exact fun _ _ e => e)
    k_whole
    rintro r9 s9 hres
    rcases hres with ⟨o, F', N', ho1, ho2, ho3⟩ | ⟨c', F', N', hmem, hc1, hc2, hc3, hc4⟩
    all_goals (
      (try replace N' := newsSub2 N' (subCons hmem subRefl))
      (try dsimp only)
      (try k_fold)))
  k_steps
  · (rename Fr _ _ _ _ => F9); (rename News _ _ _ _ => N9)
    exact retE o ca nm i ti ho1 ho2 _ _ _ (ksw_fr (by k_extra "m ps") (by k_extra "m same3") F9) (newsSub2 N9 ho3)
  · (rename Fr _ _ _ _ => F9); (rename News _ _ _ _ => N9)
    refine ksw_end c' F9 N9 (fun p hp => .tail _ (hc2 p hp)) trivial ?ps ?same hc3 hc4
    case ps => (rw [hc1]; exact allCons (by rfl) (allCons (by rfl) (allCons (by rfl) (allCons (by rfl) (allCons (by rfl) (allCons (by rfl) allNil))))))
    case same =>
      rw [hc1]
      intro z h2 h3
      (try dsimp only [psOf] at h2)
      simp only [List.forall_mem_cons, List.not_mem_nil, false_implies, implies_true, and_true, ne_eq] at h2
      simp only [List.contains_cons, List.contains_nil, Bool.or_false, Bool.or_eq_false_iff, beq_eq_false_iff_ne, ne_eq] at h3
      simp [kstB, h2, h3]
theorem inner_loop {w : World} {lo : List Str} {mean mg mb} {C : MC} {ts : Tok} {lf1 lf2 : Leaf} {gd : Option (List Code)} {frs : List Env} {base g : Heap} {L na pa : Addr} {R : Option (Int × Int)} {env : Env} {st : Stmt} {s : Shared} {m₀ : Str → Option Value} {Q : Flow → Shared → Prop} {E : Value → Shared → Prop} (c₀ : IS)
    (he : envT L = env) (hst : whInner = st)
    (hl1 : LeafObj C.o1 lf1) (hl2 : LeafObj C.o2 lf2) (hk1 : lf1.ok) (hk2 : lf2.ok) (hc1 : C.o1.cls = TUP) (hc2 : C.o2.cls = TUP)
    (hd1 : C.od.IsDictOf (strKind PW w) []) (hd2 : V.FlatPairs PyData.str [] []) (hd3 : (C.vd == sysModules) = false) (hd4 : PyProof.V.LenLe [] 5) (hlv : C.lv.length < 10) (h3 : C.S.length < 100) (h0 : 0 ≤ C.b) (h1 : C.b ≤ C.S.length)
    (n2' : @Ne Nat C.hd C.vd) (n4 : @Ne Nat C.rd C.vd) (n11 : @Ne Nat C.rl C.lg) (n5 : @Ne Nat C.hd C.rd) (n6 : @Ne Nat pa C.rl) (n7 : @Ne Nat pa C.lg)
    (B : Below (ARD 540 1400 gd frs) base frs g) (X : (KF w.params).In g) (T : Top topProg lo mean mg mb g)
    (F : Fr g L s.heap m₀) (N : News g L s.heap (isLed w C na pa c₀)) (hk : ∀ p ∈ isPs C na ts pa c₀, m₀ p.1 = some p.2) (hP : isP w C lf1 lf2 na R c₀) (hE : PassesOwn (model PW w) ((ARD 540 1400 gd frs).deeper env) env E)
    (ret7 : ∀ n tn n2 pr m e t tx ty pv pn od lv ln, isP w C lf1 lf2 na R (.a7 n tn n2 pr m e t tx ty pv pn od lv ln) → ∀ (u : Str → Option Value) h tk, Fr g L h (kstB (fun z => if [Str.ofString "way"].contains z then u z else m₀ z) (isPs C na ts pa (.a7 n tn n2 pr m e t tx ty pv pn od lv ln))) →
      News g L h (isLed w C na pa (.a7 n tn n2 pr m e t tx ty pv pn od lv ln)) → Q .next { s with heap := h, toks := tk })
    (retE : ∀ (o : OS) (ca nm : Addr) (m : Int) (t : Tok), osP C lf1 lf2 R o → osM C o < isX C c₀ → ∀ (u : Str → Option Value) h tk, Fr g L h (kstB (fun z => if [Str.ofString "way"].contains z then u z else m₀ z) (psOf C ts pa (.ref ca) m t nm)) →
      News g L h (osLed w C na pa o) → Q .next { s with heap := h, toks := tk }) :
    wpAny (model PW w) ((ARD 540 1400 gd frs).deeper env) (exec st env) Q E s := by
  k_with "m offop" => exact off_tups (fx_tup hc1 hc2)
  cases he
  cases hst
  (conv in whInner => whnf)
  refine' ksw_while (σ := IS) (isLed w C na pa) (isPs C na ts pa) (fun _ => True) [Str.ofString "way"] (fun c => isP w C lf1 lf2 na R c ∧ isX C c ≤ isX C c₀) isM c₀ F N trivial hk ⟨hP, Nat.le_refl _⟩ ?_ hE
  rintro c u h tk _ ⟨hQ, hX⟩ F N
  clear hk hP
  cases c
  case a0 n tn ca t pn =>
    dsimp only [isLed, isPs, isP, fxL, vD, hD, List.cons_append, List.nil_append] at F N hQ hX ⊢
    obtain ⟨hq1, hq2, hq3⟩ := hQ
    refine' in_turn (mm := u) (n := n) (tn := tn) B X T F N ?tk0 ?off0 ?hn0 ?hn1 ?adv retE
    case tk0 => k_extra "m take"
    case off0 => k_extra "m off"
    case hn0 => omega
    case hn1 => omega
    case adv =>
      intro t9 h' tk' E' F' N'
      replace N' := newsSub2 N' (subCons (fx_no (by k_extra "m sub")) subRefl)
      refine' use_spec ?B ?F ?X ?T ?N ?hA ?hf ?hk ?hh ?hd ?hu (adv_cat) ?tk ?off ?_
      k_extra "m use"
      rintro _ h' tk' _ F' N' ⟨ra, q1, q2, xa, xo, rfl, rfl⟩ hO
      exact .some (.a1 (n + 1) t9 q1 q2 t pn) F' N' (.head _) rfl (by k_extra "m led") ⟨⟨by omega, by omega, hq3⟩, hX⟩ (Nat.le_of_ble_eq_true rfl)
  case a1 n tn ca c2 t pn =>
    dsimp only [isLed, isPs, isP, fxL, vD, hD, List.cons_append, List.nil_append] at F N hQ hX ⊢
    obtain ⟨hq1, hq2, hq3⟩ := hQ
    refine' in_turn (mm := u) (n := n) (tn := tn) B X T F N ?tk0 ?off0 ?hn0 ?hn1 ?adv retE
    case tk0 => k_extra "m take"
    case off0 => k_extra "m off"
    case hn0 => omega
    case hn1 => omega
    case adv =>
      intro t9 h' tk' E' F' N'
      replace N' := newsSub2 N' (subCons (fx_f1 (by k_extra "m sub")) subRefl)
      refine' use_spec ?B ?F ?X ?T ?N ?hA ?hf ?hk ?hh ?hd ?hu (adv_later) ?tk ?off ?_
      k_extra "m use"
      rintro _ h' tk' _ F' N' ⟨ra, q1, q2, q3, t8, xa, xo, rfl, rfl⟩ hO
      exact .some (.a2 (n + 1) t9 q1 q2 q3 c2 C.b t t8 t pn) F' N' (.head _) rfl (by k_extra "m led") ⟨⟨by omega, by omega, by omega, by omega, hq3⟩, Nat.le_trans (by simp only [isX]; omega) hX⟩ (Nat.le_of_ble_eq_true rfl)
  case a2 n tn ca d2 en c2 p t te tb pn =>
    dsimp only [isLed, isPs, isP, fxL, vD, hD, List.cons_append, List.nil_append] at F N hQ hX ⊢
    obtain ⟨hq1, hq2, hq3, hq4, hq5⟩ := hQ
    by_cases hne1 : lf1 = .arb
    · subst hne1
      refine' in_turn (mm := u) (n := n) (tn := tn) B X T F N ?tk0 ?off0 ?hn0 ?hn1 ?adv retE
      case tk0 => k_extra "m take"
      case off0 => k_extra "m off"
      case hn0 => omega
      case hn1 => omega
      case adv =>
        intro t9 h' tk' E' F' N'
        replace N' := newsSub2 N' (subCons (fx_l1 (by k_extra "m sub")) subRefl)
        refine' use_spec ?B ?F ?X ?T ?N ?hA ?hf ?hk ?hh ?hd ?hu (adv_arbO ?p0 ?p1 ?p2 ?p3 ?p4) ?tk ?off ?_
        k_extra "m use"
        case p0 => assumption
        case p1 => omega
        case p2 => omega
        case p3 => omega
        case p4 => decide
        rintro _ h' tk' _ F' N' ⟨ra, rfl, ⟨hlt, wa', c1', t2, rfl⟩ | ⟨hlt, rfl⟩⟩ hO
        · exact .some (.a3 (n + 1) t9 d2 en c2 wa' c1' p t te tb [.ref wa'] [.ref c1', .int (p + 1) t2, .ref na] [.ref C.l1, .ref d2] (pn + 1) (some (p + 1))) F' N' (.head _) rfl (by k_extra "m led") ⟨⟨by omega, by omega, hq3, hq4, .inr ⟨t2, rfl, hlt, rfl, rfl, rfl⟩, hq5.trans (arbR_go hlt), .inr rfl⟩, hX⟩ (Nat.le_of_ble_eq_true rfl)
        · exact .some (.a3 (n + 1) t9 d2 en c2 na na p t te tb [] [] [] pn none) F' N' (.head _) rfl (by k_extra "m led") ⟨⟨by omega, by omega, hq3, hq4, .inl ⟨rfl, rfl⟩, hq5.trans (arbR_end hlt), .inl rfl⟩, hX⟩ (Nat.le_of_ble_eq_true rfl)
    · skip
      refine' in_turn (mm := u) (n := n) (tn := tn) B X T F N ?tk0 ?off0 ?hn0 ?hn1 ?adv retE
      case tk0 => k_extra "m take"
      case off0 => k_extra "m off"
      case hn0 => omega
      case hn1 => omega
      case adv =>
        intro t9 h' tk' E' F' N'
        replace N' := newsSub2 N' (subCons (fx_l1 (by k_extra "m sub")) subRefl)
        refine' use_spec ?B ?F ?X ?T ?N ?hA ?hf ?hk ?hh ?hd ?hu (adv_leaf hl1 hne1 ?p1 ?p2 ?p3 hk1) ?tk ?off ?_
        k_extra "m use"
        case p1 => omega
        case p2 => omega
        case p3 => omega
        rintro _ h' tk' _ F' N' (⟨e1, ra, t2, he, rfl, rfl⟩ | ⟨he, rfl, rfl⟩) hO
        · have hle := leafEnd_le (by omega) hq4 hk1 he
          exact .some (.a3 (n + 1) t9 d2 en c2 na na e1 t2 te tb [] [] [] pn none) F' N' (.head _) rfl (by k_extra "m led") ⟨⟨by omega, by omega, by omega, by omega, .inl ⟨rfl, rfl⟩, by rw [hq5, startR_leaf hne1, he], .inl rfl⟩, Nat.le_trans (by simp only [isX]; omega) hX⟩ (Nat.le_of_ble_eq_true rfl)
        · exact .none (.oE (n + 1) t9 pn) F' N' ⟨by omega, by rw [hq5, startR_leaf hne1, he]⟩ (Nat.lt_of_lt_of_le (by simp only [osM, isX]; omega) hX) (by k_extra "m led")
  case a3 n tn d2 en c2 wa wc m t te tb pv wv1 wv2 pn nx =>
    dsimp only [isLed, isPs, isP, fxL, vD, hD, List.cons_append, List.nil_append] at F N hQ hX ⊢
    obtain ⟨hq1, hq2, hq3, hq4, hq5, hq6, hq7⟩ := hQ
    refine' in_turn (mm := u) (n := n) (tn := tn) B X T F N ?tk0 ?off0 ?hn0 ?hn1 ?adv retE
    case tk0 => k_extra "m take"
    case off0 => k_extra "m off"
    case hn0 => omega
    case hn1 => omega
    case adv =>
      intro t9 h' tk' E' F' N'
      replace N' := newsSub2 N' (subCons (fx_na (by k_extra "m sub")) subRefl)
      refine' use_spec ?B ?F ?X ?T ?N ?hA ?hf ?hk ?hh ?hd ?hu (adv_endlater ?p1) ?tk ?off ?_
      k_extra "m use"
      case p1 => omega
      rintro _ h' tk' _ F' N' ⟨ra, q1, q2, t8, xa, xo, rfl, rfl⟩ hO
      exact .some (.a4 (n + 1) t9 d2 en c2 wa wc q1 q2 m t te tb t8 pv wv1 wv2 pn nx) F' N' (.head _) rfl (by k_extra "m led") ⟨⟨by omega, by omega, hq3, hq4, hq5, hq6, hq7⟩, hX⟩ (Nat.le_of_ble_eq_true rfl)
  case a4 n tn d2 en c2 wa wc n2 pr m t te tb tx pv wv1 wv2 pn nx =>
    dsimp only [isLed, isPs, isP, fxL, vD, hD, List.cons_append, List.nil_append] at F N hQ hX ⊢
    obtain ⟨hq1, hq2, hq3, hq4, hq5, hq6, hq7⟩ := hQ
    refine' in_turn (mm := u) (n := n) (tn := tn) B X T F N ?tk0 ?off0 ?hn0 ?hn1 ?adv retE
    case tk0 => k_extra "m take"
    case off0 => k_extra "m off"
    case hn0 => omega
    case hn1 => omega
    case adv =>
      intro t9 h' tk' E' F' N'
      replace N' := newsSub2 N' (subCons (fx_f2 (by k_extra "m sub")) subRefl)
      refine' use_spec ?B ?F ?X ?T ?N ?hA ?hf ?hk ?hh ?hd ?hu (adv_now) ?tk ?off ?_
      k_extra "m use"
      rintro _ h' tk' _ F' N' ⟨ra, q1, q2, q3, t8, xa, xo, rfl, rfl⟩ hO
      exact .some (.a5 (n + 1) t9 d2 en c2 wa wc n2 pr q1 q2 q3 m t te tb tx t8 t pv wv1 wv2 pn nx) F' N' (.head _) rfl (by k_extra "m led") ⟨⟨by omega, by omega, hq3, hq4, hq5, hq6, hq7⟩, hX⟩ (Nat.le_of_ble_eq_true rfl)
  case a5 n tn d2 en c2 wa wc n2 pr ca e2 e3 m t te tb tx te3 tm pv wv1 wv2 pn nx =>
    dsimp only [isLed, isPs, isP, fxL, vD, hD, List.cons_append, List.nil_append] at F N hQ hX ⊢
    obtain ⟨hq1, hq2, hq3, hq4, hq5, hq6, hq7⟩ := hQ
    by_cases hne2 : lf2 = .arb
    · subst hne2
      have hpv : pv.length < 10 := by
        rcases hq5 with ⟨_, rfl⟩ | ⟨_, _, _, rfl, _⟩ <;> exact Nat.le_of_ble_eq_true rfl
      refine' in_turn (mm := u) (n := n) (tn := tn) B X T F N ?tk0 ?off0 ?hn0 ?hn1 ?adv retE
      case tk0 => k_extra "m take"
      case off0 => k_extra "m off"
      case hn0 => omega
      case hn1 => omega
      case adv =>
        intro t9 h' tk' E' F' N'
        replace N' := newsSub2 N' (subCons (fx_l2 (by k_extra "m sub")) subRefl)
        refine' use_spec ?B ?F ?X ?T ?N ?hA ?hf ?hk ?hh ?hd ?hu (adv_arbO ?p0 ?p1 ?p2 ?p3 ?p4) ?tk ?off ?_
        k_extra "m use"
        case p0 => assumption
        case p1 => omega
        case p2 => omega
        case p3 => omega
        case p4 => assumption
        rintro _ h' tk' _ F' N' ⟨ra, rfl, ⟨hlt, wa', c1', t2, rfl⟩ | ⟨hlt, rfl⟩⟩ hO
        · exact .some (.a6 (n + 1) t9 n2 pr e2 e3 m m t tx te3 tm (pv ++ [.ref wa']) (pn + 1)) F' N' (.head _) rfl (by k_extra "m led") ⟨⟨by omega, by omega, hq3, by omega, hq4, hq6⟩, Nat.le_trans (by simp only [isX]; omega) hX⟩ (Nat.le_of_ble_eq_true rfl)
        · exact .some (.a6 (n + 1) t9 n2 pr e2 e3 m m t tx te3 tm pv pn) F' N' (.head _) rfl (by k_extra "m led") ⟨⟨by omega, by omega, hq3, by omega, hq4, hq6⟩, Nat.le_trans (by simp only [isX]; omega) hX⟩ (Nat.le_of_ble_eq_true rfl)
    · skip
      refine' in_turn (mm := u) (n := n) (tn := tn) B X T F N ?tk0 ?off0 ?hn0 ?hn1 ?adv retE
      case tk0 => k_extra "m take"
      case off0 => k_extra "m off"
      case hn0 => omega
      case hn1 => omega
      case adv =>
        intro t9 h' tk' E' F' N'
        replace N' := newsSub2 N' (subCons (fx_l2 (by k_extra "m sub")) subRefl)
        refine' use_spec ?B ?F ?X ?T ?N ?hA ?hf ?hk ?hh ?hd ?hu (adv_leaf hl2 hne2 ?p1 ?p2 ?p3 hk2) ?tk ?off ?_
        k_extra "m use"
        case p1 => omega
        case p2 => omega
        case p3 => omega
        rintro _ h' tk' _ F' N' (⟨e1, ra, t2, he, rfl, rfl⟩ | ⟨he, rfl, rfl⟩) hO
        · have hle := leafEnd_le (by omega) hq4 hk2 he
          exact .some (.a6 (n + 1) t9 n2 pr e2 e3 m e1 t2 tx te3 tm pv pn) F' N' (.head _) rfl (by k_extra "m led") ⟨⟨by omega, by omega, hq3, by omega, by omega, by rw [hq6]; unfold tailR; rw [he]⟩, Nat.le_trans (by simp only [isX]; omega) hX⟩ (Nat.le_of_ble_eq_true rfl)
        · rcases hq5 with ⟨hx, rfl⟩ | ⟨tq, hx, hlt, rfl, rfl, rfl⟩
          · subst hx
            exact .none (.oE (n + 1) t9 pn) F' N' ⟨by omega, by rw [hq6]; unfold tailR; rw [he]⟩ (Nat.lt_of_lt_of_le (by simp only [osM, isX]; omega) hX) (by k_extra "m led")
          · subst hx
            have ha : lf1 = .arb := by
              rcases hq7 with h | h
              · cases h
              · exact h
            exact .none (.oB (n + 1) t9 wa wc d2 en c2 (m + 1) tq te tb pn) F' N' ⟨by omega, by omega, by omega, by omega, by rw [hq6, ha]; unfold tailR; rw [he]; rfl⟩ (Nat.lt_of_lt_of_le (by simp only [osM, isX]; omega) hX) (by k_extra "m led")
  case a6 n tn n2 pr e2 e3 m e t tx te3 tm pv pn =>
    dsimp only [isLed, isPs, isP, fxL, vD, hD, List.cons_append, List.nil_append] at F N hQ hX ⊢
    obtain ⟨hq1, hq2, hq3, hq4, hq5, hq6⟩ := hQ
    refine' in_turn (mm := u) (n := n) (tn := tn) B X T F N ?tk0 ?off0 ?hn0 ?hn1 ?adv retE
    case tk0 => k_extra "m take"
    case off0 => k_extra "m off"
    case hn0 => omega
    case hn1 => omega
    case adv =>
      intro t9 h' tk' E' F' N'
      refine' use_spec ?B ?F ?X ?T ?N ?hA ?hf ?hk ?hh ?hd ?hu (adv_endnow ?p1 hd1 hd2 hd3 hd4 ?p2 ?p3 n2' n4 n11) ?tk ?off ?_
      k_extra "m use"
      case p1 => omega
      case p2 => omega
      case p3 => decide
      rintro _ h' tk' _ F' N' ⟨ra, od', da, tx', rfl, hq8, hq9, rfl⟩ hO
      exact .some (.a7 (n + 1) t9 n2 pr m e t tx tx' pv pn od' (C.lv ++ [.ref da]) (C.ln + 1)) F' N' (.head _) rfl (by k_extra "m led") ⟨⟨by omega, hq3, hq4, hq5, hq6, hq8, hq9, by simp⟩, Nat.le_trans (by simp only [isX]; omega) hX⟩ (Nat.le_of_ble_eq_true rfl)
  case a7 n tn n2 pr m e t tx ty pv pn od lv ln =>
    have hQ' := hQ
    dsimp only [isLed, isPs, isP, isX, fxL, vD, hD, psOf, List.cons_append, List.nil_append] at F N hQ hX ⊢
    obtain ⟨hq1, hq2, hq3, hq4, hq5, hq6, hq7, hq8⟩ := hQ
    (try k_fold)
    k_steps
    (try k_unfold); (try dsimp only)
    exact ret7 n tn n2 pr m e t tx ty pv pn od lv ln hQ' u _ _ (by assumption) (by assumption)
end

section
theorem regMBu : (fun (_ : OpenLaw) (_ : Params → Frag) => True) PySem.Challenge.rw_sj0197_01 KF := by
  k_with_none
  k_with "m enter" => (
    (case k1 => exact B); (case k2 => exact X); (case k3 => exact T); (case k4 => exact st); (case k5 => exact sz); (case k6 => exact N)
    (case k7 => k_dflt k_is)
    (case hb => (conv => lhs; whnf))
    (case hs => (conv => lhs; whnf))
    (case k8 => k_dflt k_is)
    (case k9 => decide)
    (case k10 => exact BindsTo.of_eq rfl)
    (case k11 => exact locs rfl)
    (case c1 => exact rfl); (case c2 => exact rfl); (case c3 => exact rfl); (case c4 => decide)
    clear st sz N
    intro L h F N'
    (try dsimp only)
    (try k_fold))
  k_with "m end" => ((try k_unfold); (try dsimp only); refine' hret _ _ _ ?e1 ?e2 ?e3 ?e4; (case e1 => exact Fr.keep (by k_asm)); (case e4 => k_extra "m kept"))
  k_with "m kept" => (first | exact kept_nil | (refine' kept_tup ?ka ?kb ?kc; (case ka => k_asm); (case kb => k_mem); (case kc => k_extra "m kept")) | (refine' kept_not ?kd ?ke ?kf; (case kd => k_extra "m cls"); (case ke => decide); (case kf => k_extra "m kept")))
  k_with "m sub" => (first | exact subNil | exact subRefl | (refine' subStep ?su; (case su => k_extra "m sub")) | (refine' subUpS ?sk ?su; (case sk => ((fail_if_success (refine skipOf ?_; k_mem)); exact trivial)); (case su => k_extra "m sub")) | (refine' subCons ?sa ?sb; (case sa => k_mem); (case sb => k_extra "m sub")))
  k_with "m same" => (
    intro z h2 h3
    simp only [List.forall_mem_cons, List.not_mem_nil, false_implies, implies_true, and_true, ne_eq] at h2
    simp [kstB, h2])
  k_with "m same2" => (
    intro z h2 h3
    dsimp only [isPs, psOf] at h2
    simp only [List.forall_mem_cons, List.not_mem_nil, false_implies, implies_true, and_true, ne_eq] at h2
    simp only [List.contains_cons, List.contains_nil, Bool.or_false, Bool.or_eq_false_iff, beq_eq_false_iff_ne, ne_eq] at h3
    simp [kstB, h2, h3])
  k_with "m same3" => (
    intro z h2 h3
    simp only [List.forall_mem_cons, List.not_mem_nil, false_implies, implies_true, and_true, ne_eq] at h2
    simp only [List.contains_cons, List.contains_nil, Bool.or_false, beq_eq_false_iff_ne, ne_eq] at h3
    simp [kstB, h2, h3])
  k_with "m same4" => (
    intro z h2 h3
    simp only [List.forall_mem_cons, List.not_mem_nil, false_implies, implies_true, and_true, ne_eq] at h2
    simp only [List.contains_cons, List.contains_nil, Bool.or_false, Bool.or_eq_false_iff, beq_eq_false_iff_ne, ne_eq] at h3
    simp [kstB, h2, h3])
  k_with "m led" => (dsimp only [isLed, osLed, fxL, vD, hD, List.cons_append, List.nil_append]; k_extra "m sub")
  k_with "m ps" => (dsimp only [isPs, psOf]; kst_all)
  k_with "m all" => exact newsOut (by k_asm)
  k_with "m outA" => exact newsSub (by k_asm) (subApp (by k_extra "m sub"))
  k_with "m out" => exact newsSub (by k_asm) (by k_extra "m sub")
  k_with "m t1" => (first | with_reducible exact Take1.head | (refine' Take1.tail ?mt; (case mt => k_extra "m t1")))
  k_with "m take" => (first | exact TakeL.nil | (refine' TakeL.cons ?ma ?mb; (case ma => k_extra "m t1"); (case mb => k_extra "m take")))
  k_with "m cls" => (first | assumption | exact dict_cls (by assumption) | (conv => lhs; whnf))
  k_with "m nocell" => exact rfl
  k_with "m ne" => (first | assumption | (refine Ne.symm ?_; assumption) | (refine' ne_cls ?na ?nb ?nc ?nd ?nf ?ng; (case na => k_asm); (case nb => k_mem); (case nc => k_mem); (case nd => k_extra "m cls"); (case nf => k_extra "m cls"); (case ng => decide)) | (refine' ne_cell ?na ?nb ?nc ?nd ?nf; (case na => k_asm); (case nb => k_mem); (case nc => k_mem); (case nd => assumption); (case nf => k_extra "m nocell")) | (refine Ne.symm ?_; refine' ne_cell ?na ?nb ?nc ?nd ?nf; (case na => k_asm); (case nb => k_mem); (case nc => k_mem); (case nd => assumption); (case nf => k_extra "m nocell")) | (refine neN ?_; (try dsimp only); omega))
  k_with "m ne1" => (first | exact ne1_nil | (refine' ne1_tup ?nt ?nu; (case nt => first | exact rfl | assumption); (case nu => k_extra "m ne1")) | (refine' ne1_cls ?n1 ?n2 ?n3 ?n4; (case n1 => k_extra "m cls"); (case n2 => k_extra "m cls"); (case n3 => decide); (case n4 => k_extra "m ne1")) | (refine' ne1_cell ?n1 ?n2 ?n4; (case n1 => assumption); (case n2 => k_extra "m nocell"); (case n4 => k_extra "m ne1")) | (refine' ne1_cons ?nv ?nw; (case nv => k_extra "m ne"); (case nw => k_extra "m ne1")))
  k_with "m off" => (first | exact off_nil | k_extra "m offop" | (refine' off_consT ?oc ?ob; (case oc => first | exact rfl | assumption); (case ob => k_extra "m off")) | (refine' off_cons ?oa ?ob; (case oa => k_extra "m ne1"); (case ob => k_extra "m off")))
  k_with "m use" => (
    (case hA => exact rfl); (case hf => exact rfl); (case hk => exact rfl); (case hh => exact rfl)
    (case B => k_asm); (case F => k_asm); (case X => k_asm); (case T => k_asm); (case N => k_asm)
    (case hd => exact Nat.le_of_ble_eq_true rfl); (case hu => exact Nat.le_of_ble_eq_true rfl)
    (case tk => k_extra "m take")
    (case off => k_extra "m off"))
  k_with "call ref" => (k_here; k_dflt (k_extra "m call"))
  k_with "compareOp NotIn str ref" => (k_here; k_dflt (refine' notin_tuple_strs ?k1 ?k2 ?_; (case k1 => exact tupK (by k_in) (by k_is)); (case k2 => kde_strs); k_whole))
  k_with "compareOp In str ref" => (k_here; k_dflt (refine' in_tuple_strs ?k1 ?k2 ?_; (case k1 => exact tupK (by k_in) (by k_is)); (case k2 => kde_strs); k_whole))
  k_with "setItem ref str" => (k_here; k_dflt (refine' setItem_K PyProof.V.same_str (strKind_is _ _ _ _) ?v ?F ?N ?U ?d ?f ?_ ?z; (case F => k_asm); (case N => k_asm); (case U => k_updF); (case d => k_asm); (case f => k_asm); (case z => exact line_of_lenLe (n := 5) (by assumption) (by decide)); (case v => k_flat)); intro h' o' F' N' hd' hf'; (try dsimp only at N'); (try k_sweep))
  k_with "compareOp Eq ref str" => (k_here; k_dflt (refine' eq_tup_str ?k1 ?k2 ?k3 ?_; (case k1 => k_asm); (case k2 => k_mem); (case k3 => exact Nat.le_of_ble_eq_true rfl); k_whole))
  k_with "CompSrc" => (k_here; k_dflt (k_extra "m src"))
  k_with "CompEnd" => (k_here; k_extra "m compend")
  k_with "call builtin:sorted" => (k_here; k_dflt (k_extra "m sorted"))
  k_with "compareOp NotEq str str" => (k_here; k_extra "m neq")
  k_with "compareOp Eq str str" => (k_here; k_extra "m eqs")
  k_with "call builtin:str.join" => (k_here; k_dflt (k_extra "m join"))
  k_with "eval Lambda" => (k_here; k_dflt (k_extra "m lam"))
  k_with "compareOp NotEq int int" => (k_here; k_dflt (k_extra "m neqi"))
  k_with "compareOp NotEq ref ref" => (k_here; k_dflt (k_extra "m neqt"))
  k_with "call builtin:len" => (k_here; k_dflt (k_extra "m len"))
  k_with "binaryOp Add ref ref" => (k_here; k_dflt (k_extra "m addl"))
  k_with "eval ListComp" => (k_here; k_extra "m comp")
  k_with "subscriptTail" => (k_here; k_dflt (k_extra "m item"))
  k_with "execs cons" => (k_here; k_extra "m stmt")
  trivial
abbrev stayL (w : World) (C : MC) : Led := [(C.hs, instObj 229 C.hd), (C.vr, instObj 138 C.rd), (C.rd, refD w C.j1 C.j2 C.j3 (Str.ofString "V") C.u1 C.u3), (C.rl, listOf #[] C.rn), (C.no, tup [.str (Str.ofString "cat") C.t0, .ref C.f1, .ref C.f2]), (C.f1, tup [.str (Str.ofString "later") C.t1, .ref C.l1, .ref C.wr]), (C.f2, tup [.str (Str.ofString "now") C.t2, .ref C.l2, .ref C.vr]), (C.l1, C.o1), (C.l2, C.o2)]
inductive TriedPost (w : World) (C : MC) (lf1 lf2 : Leaf) : Value → Led → Prop
  | none (n' : Int) (tn' : Tok) (hr : startR C.S lf1 lf2 C.b = none) : TriedPost w C lf1 lf2 .none ([hD w C n' tn'] ++ vD C ++ stayL w C)
  | some (m e n' : Int) (tn' t tx ty : Tok) (ra la pr : Addr) (k : Nat) (od' : Obj) (lv' : List Value) (ln' : Nat) (hr : startR C.S lf1 lf2 C.b = some (m, e)) (h1 : C.b ≤ m) (h2 : m ≤ e) (h3 : e ≤ C.S.length)
      (q1 : od'.IsDictOf (strKind PW w) [(Str.ofString "V", .str (Txt.slice C.S (some m) (some e)) ty)]) (q2 : V.FlatPairs PyData.str [(Str.ofString "V", .str (Txt.slice C.S (some m) (some e)) ty)] [(PyData.str (Str.ofString "V"), PyData.str (Txt.slice C.S (some m) (some e)))]) (q3 : lv'.length ≤ C.lv.length + 1) (a1 : @Ne Nat la C.lg) (a2 : @Ne Nat la C.rl) :
      TriedPost w C lf1 lf2 (.ref ra) ([(ra, tup [.int e t, .ref la]), (la, listOf [Value.ref pr].toArray k), (pr, tup [.ref C.wr, .str (Txt.slice C.S (some C.b) (some m)) tx]), hD w C n' tn', (C.vd, od'), (C.lg, listOf lv'.toArray ln')] ++ stayL w C)
theorem tried_spec {w : World} {lo : List Str} {mean mg mb} {C : MC} {ts tb tn : Tok} {n : Int} {lf1 lf2 : Leaf} (hl1 : LeafObj C.o1 lf1) (hl2 : LeafObj C.o2 lf2) (hk1 : lf1.ok) (hk2 : lf2.ok) (hc1 : C.o1.cls = TUP) (hc2 : C.o2.cls = TUP)
    (hd1 : C.od.IsDictOf (strKind PW w) []) (hd2 : V.FlatPairs PyData.str [] []) (hd3 : (C.vd == sysModules) = false) (hd4 : PyProof.V.LenLe [] 5) (hlv : C.lv.length < 10) (h3 : C.S.length < 100) (h0 : 0 ≤ C.b) (h1 : C.b ≤ C.S.length) (hn0 : 0 ≤ n) (hn1 : n ≤ 5)
    (n2 : @Ne Nat C.hd C.vd) (n4 : @Ne Nat C.rd C.vd) (n11 : @Ne Nat C.rl C.lg) (n5 : @Ne Nat C.hd C.rd) :
    Spec w lo mean mg mb 540 1400 404 [.ref C.no, .str C.S ts, .int C.b tb, .ref C.hs]
      [(C.no, tup [.str (Str.ofString "cat") C.t0, .ref C.f1, .ref C.f2]), (C.f1, tup [.str (Str.ofString "later") C.t1, .ref C.l1, .ref C.wr]), (C.f2, tup [.str (Str.ofString "now") C.t2, .ref C.l2, .ref C.vr]), (C.l1, C.o1), (C.l2, C.o2), (C.hs, instObj 229 C.hd), hD w C n tn, (C.vr, instObj 138 C.rd), (C.rd, refD w C.j1 C.j2 C.j3 (Str.ofString "V") C.u1 C.u3), (C.rl, listOf #[] C.rn), (C.vd, C.od), (C.lg, listOf C.lv.toArray C.ln)]
      (TriedPost w C lf1 lf2) := by
  intro gd frs base g s Q E B X T st sz N hret
  k_with "exec While Compare cons nil" => (refine stopHere ?_)
  refine' enterS [(Str.ofString "node", .ref C.no), (Str.ofString "subject", .str C.S ts), (Str.ofString "begin", .int C.b tb), (Str.ofString "host", .ref C.hs)] ?k1 ?k2 ?k3 ?k4 ?k5 ?k6 ?k7 ?hb ?hs ?k8 ?k9 ?k10 ?k11 ?_ ?c1 ?c2 ?c3 ?c4
  k_extra "m enter"
  k_steps
  rename_i ca hx1 lx1 na hx2 lx2 wa hx3 lx3 pa hx4 lx4 hx5 F0 N0
  unfold Stop
  refine' ksw_while (σ := OS) (osLed w C na pa) (fun _ => [(Str.ofString "subject", .str C.S ts), (Str.ofString "pile", .ref pa), (Str.ofString "host", .ref C.hs)]) (fun _ => True) [Str.ofString "way", Str.ofString "chain", Str.ofString "at", Str.ofString "named"] (fun c => osP C lf1 lf2 (startR C.S lf1 lf2 C.b) c) (osM C) (.o0 n tn wa ca tb 0) F0 ?nw trivial ?hk ⟨hn0, hn1, rfl⟩ ?turn ?hE
  case hE => ((try k_unfold); (try dsimp only); (with_unfolding_all passes_own))
  case nw => exact newsSub2 N0 (by dsimp only [osLed, fxL, fxT, vD, hD, List.cons_append, List.nil_append]; k_extra "m sub")
  case hk => kst_all
  k_with "m offop" => exact off_tups (fx_tup hc1 hc2)
  k_with "m kall" => (refine' tups_ne (fx_tup hc1 hc2) ?ka ?kb ?kc ?ke ?kf; (case ka => k_asm); (case kb => k_mem); (case kc => k_extra "m sub"); (case ke => k_extra "m cls"); (case kf => decide))
  rintro c u h tk _ hQ F N
  cases c
  case o0 n' tn' wa' ca' t pn =>
    dsimp only [osLed, osP, fxL, vD, hD, List.cons_append, List.nil_append] at F N hQ ⊢
    obtain ⟨hq1, hq2, hq3⟩ := hQ
    (try k_fold)
    k_steps
    unfold Stop
    (try k_unfold); (try dsimp only)
    (rename Fr _ _ _ _ => F9); (rename News _ _ _ _ => N9)
    refine' inner_loop (pa := pa) (na := na) (ts := ts) (L := L) (R := startR C.S lf1 lf2 C.b) (.a0 n' tn' ca' t (pn + 1)) rfl rfl hl1 hl2 hk1 hk2 hc1 hc2 hd1 hd2 hd3 ?i1 hlv h3 h0 h1 n2 n4 n11 n5 ?i2 ?i3 (by assumption) X T F9 ?i4 ?i5 ⟨hq1, hq2, rfl⟩ ?i6 ?i7 ?i8
    case i1 => exact hd4
    case i2 => refine neN ?_; omega
    case i3 => refine neN ?_; omega
    case i4 => exact newsSub2 N9 (by k_extra "m led")
    case i5 => k_extra "m ps"
    case i6 => with_unfolding_all passes_own
    case i7 =>
      intro n9 tn9 n2' pr m e t9 tx ty pv pn9 od' lv' ln' hP u9 h9 tk9 F9 N9
      dsimp only [isLed, isPs, psOf, fxL, fxT, vD, hD, List.cons_append, List.nil_append] at F9 N9 ⊢
      dsimp only [isP] at hP
      obtain ⟨hp1, hp2, hp3, hp4, hp5, hp6, hp7, hp8⟩ := hP
      clear hq3
      (try k_fold)
      k_steps
      rename_i Dla kla g1 l1a Dra g2 F2 N2 l1b
      k_extra "m end"
      (case e3 => exact .some m e n9 tn9 t9 tx ty Dra Dla pr kla od' lv' ln' hp5 hp2 hp3 hp4 hp6 hp7 hp8 (by refine neN ?_; omega) (by refine neN ?_; omega))
      (case e2 => k_extra "m out")
    case i8 =>
      intro o ca nm m t hP hlt u9 h9 tk9 F9 N9
      dsimp only [psOf] at F9 ⊢
      (try k_fold)
      k_steps
      refine ksw_end o (by assumption) (by assumption) (fun p hp => hp) trivial (by kst_all) (by k_extra "m same4") hP hlt
  case oE n' tn' pn =>
    dsimp only [osLed, osP, fxL, fxT, vD, hD, List.cons_append, List.nil_append] at F N hQ ⊢
    obtain ⟨hq1, hq2⟩ := hQ
    (try k_fold)
    k_steps
    k_extra "m end"
    (case e3 => exact .none n' tn' hq2)
    (case e2 => k_extra "m out")
  case oB n' tn' wa' ca' d2 en c2 p t te tb pn =>
    dsimp only [osLed, osP, fxL, vD, hD, List.cons_append, List.nil_append] at F N hQ ⊢
    obtain ⟨hq1, hq2, hq3, hq4, hq5⟩ := hQ
    (try k_fold)
    k_steps
    unfold Stop
    (rename Fr _ _ _ _ => F9); (rename News _ _ _ _ => N9)
    refine' inner_loop (pa := pa) (na := na) (ts := ts) (L := L) (R := startR C.S lf1 lf2 C.b) (.a2 n' tn' ca' d2 en c2 p t te tb (pn + 1)) rfl rfl hl1 hl2 hk1 hk2 hc1 hc2 hd1 hd2 hd3 ?i1 hlv h3 h0 h1 n2 n4 n11 n5 ?i2 ?i3 (by assumption) X T F9 ?i4 ?i5 ⟨hq1, hq2, hq3, hq4, hq5⟩ ?i6 ?i7 ?i8
    case i1 => exact hd4
    case i2 => refine neN ?_; omega
    case i3 => refine neN ?_; omega
    case i4 => exact newsSub2 N9 (by k_extra "m led")
    case i5 => k_extra "m ps"
    case i6 => with_unfolding_all passes_own
    case i7 =>
      intro n9 tn9 n2' pr m e t9 tx ty pv pn9 od' lv' ln' hP u9 h9 tk9 F9 N9
      dsimp only [isLed, isPs, psOf, fxL, fxT, vD, hD, List.cons_append, List.nil_append] at F9 N9 ⊢
      dsimp only [isP] at hP
      obtain ⟨hp1, hp2, hp3, hp4, hp5, hp6, hp7, hp8⟩ := hP
      clear hq5
      (try k_fold)
      k_steps
      rename_i Dla kla g1 l1a Dra g2 F2 N2 l1b
      k_extra "m end"
      (case e3 => exact .some m e n9 tn9 t9 tx ty Dra Dla pr kla od' lv' ln' hp5 hp2 hp3 hp4 hp6 hp7 hp8 (by refine neN ?_; omega) (by refine neN ?_; omega))
      (case e2 => k_extra "m out")
    case i8 =>
      intro o ca nm m t hP hlt u9 h9 tk9 F9 N9
      dsimp only [psOf] at F9 ⊢
      (try k_fold)
      k_steps
      refine ksw_end o (by assumption) (by assumption) (fun p hp => hp) trivial (by kst_all) (by k_extra "m same4") hP hlt
end

section
theorem regMBm : (fun (_ : OpenLaw) (_ : Params → Frag) => True) PySem.Challenge.rw_sj0197_01 KF := by
  k_with_none
  k_with "m enter" => (
    (case k1 => exact B); (case k2 => exact X); (case k3 => exact T); (case k4 => exact st); (case k5 => exact sz); (case k6 => exact N)
    (case k7 => k_dflt k_is)
    (case hb => (conv => lhs; whnf))
    (case hs => (conv => lhs; whnf))
    (case k8 => k_dflt k_is)
    (case k9 => decide)
    (case k10 => exact BindsTo.of_eq rfl)
    (case k11 => exact locs rfl)
    (case c1 => exact rfl); (case c2 => exact rfl); (case c3 => exact rfl); (case c4 => decide)
    clear st sz N
    intro L h F N'
    (try dsimp only)
    (try k_fold))
  k_with "m end" => ((try k_unfold); (try dsimp only); refine' hret _ _ _ ?e1 ?e2 ?e3 ?e4; (case e1 => exact Fr.keep (by k_asm)); (case e4 => k_extra "m kept"))
  k_with "m kept" => (first | exact kept_nil | (refine' kept_tup ?ka ?kb ?kc; (case ka => k_asm); (case kb => k_mem); (case kc => k_extra "m kept")) | (refine' kept_not ?kd ?ke ?kf; (case kd => k_extra "m cls"); (case ke => decide); (case kf => k_extra "m kept")))
  k_with "m sub" => (first | exact subNil | exact subRefl | (refine' subStep ?su; (case su => k_extra "m sub")) | (refine' subUpS ?sk ?su; (case sk => ((fail_if_success (refine skipOf ?_; k_mem)); exact trivial)); (case su => k_extra "m sub")) | (refine' subCons ?sa ?sb; (case sa => k_mem); (case sb => k_extra "m sub")))
  k_with "m same" => (
    intro z h2 h3
    simp only [List.forall_mem_cons, List.not_mem_nil, false_implies, implies_true, and_true, ne_eq] at h2
    simp [kstB, h2])
  k_with "m same2" => (
    intro z h2 h3
    dsimp only [isPs, psOf] at h2
    simp only [List.forall_mem_cons, List.not_mem_nil, false_implies, implies_true, and_true, ne_eq] at h2
    simp only [List.contains_cons, List.contains_nil, Bool.or_false, Bool.or_eq_false_iff, beq_eq_false_iff_ne, ne_eq] at h3
    simp [kstB, h2, h3])
  k_with "m same3" => (
    intro z h2 h3
    simp only [List.forall_mem_cons, List.not_mem_nil, false_implies, implies_true, and_true, ne_eq] at h2
    simp only [List.contains_cons, List.contains_nil, Bool.or_false, beq_eq_false_iff_ne, ne_eq] at h3
    simp [kstB, h2, h3])
  k_with "m same4" => (
    intro z h2 h3
    simp only [List.forall_mem_cons, List.not_mem_nil, false_implies, implies_true, and_true, ne_eq] at h2
    simp only [List.contains_cons, List.contains_nil, Bool.or_false, Bool.or_eq_false_iff, beq_eq_false_iff_ne, ne_eq] at h3
    simp [kstB, h2, h3])
  k_with "m led" => (dsimp only [isLed, osLed, fxL, vD, hD, List.cons_append, List.nil_append]; k_extra "m sub")
  k_with "m ps" => (dsimp only [isPs, psOf]; kst_all)
  k_with "m all" => exact newsOut (by k_asm)
  k_with "m outA" => exact newsSub (by k_asm) (subApp (by k_extra "m sub"))
  k_with "m out" => exact newsSub (by k_asm) (by k_extra "m sub")
  k_with "m t1" => (first | with_reducible exact Take1.head | (refine' Take1.tail ?mt; (case mt => k_extra "m t1")))
  k_with "m take" => (first | exact TakeL.nil | (refine' TakeL.cons ?ma ?mb; (case ma => k_extra "m t1"); (case mb => k_extra "m take")))
  k_with "m cls" => (first | assumption | exact dict_cls (by assumption) | (conv => lhs; whnf))
  k_with "m nocell" => exact rfl
  k_with "m ne" => (first | assumption | (refine Ne.symm ?_; assumption) | (refine' ne_cls ?na ?nb ?nc ?nd ?nf ?ng; (case na => k_asm); (case nb => k_mem); (case nc => k_mem); (case nd => k_extra "m cls"); (case nf => k_extra "m cls"); (case ng => decide)) | (refine' ne_cell ?na ?nb ?nc ?nd ?nf; (case na => k_asm); (case nb => k_mem); (case nc => k_mem); (case nd => assumption); (case nf => k_extra "m nocell")) | (refine Ne.symm ?_; refine' ne_cell ?na ?nb ?nc ?nd ?nf; (case na => k_asm); (case nb => k_mem); (case nc => k_mem); (case nd => assumption); (case nf => k_extra "m nocell")) | (refine neN ?_; (try dsimp only); omega))
  k_with "m ne1" => (first | exact ne1_nil | (refine' ne1_tup ?nt ?nu; (case nt => first | exact rfl | assumption); (case nu => k_extra "m ne1")) | (refine' ne1_cls ?n1 ?n2 ?n3 ?n4; (case n1 => k_extra "m cls"); (case n2 => k_extra "m cls"); (case n3 => decide); (case n4 => k_extra "m ne1")) | (refine' ne1_cell ?n1 ?n2 ?n4; (case n1 => assumption); (case n2 => k_extra "m nocell"); (case n4 => k_extra "m ne1")) | (refine' ne1_cons ?nv ?nw; (case nv => k_extra "m ne"); (case nw => k_extra "m ne1")))
  k_with "m off" => (first | exact off_nil | k_extra "m offop" | (refine' off_consT ?oc ?ob; (case oc => first | exact rfl | assumption); (case ob => k_extra "m off")) | (refine' off_cons ?oa ?ob; (case oa => k_extra "m ne1"); (case ob => k_extra "m off")))
  k_with "m use" => (
    (case hA => exact rfl); (case hf => exact rfl); (case hk => exact rfl); (case hh => exact rfl)
    (case B => k_asm); (case F => k_asm); (case X => k_asm); (case T => k_asm); (case N => k_asm)
    (case hd => exact Nat.le_of_ble_eq_true rfl); (case hu => exact Nat.le_of_ble_eq_true rfl)
    (case tk => k_extra "m take")
    (case off => k_extra "m off"))
  k_with "call ref" => (k_here; k_dflt (k_extra "m call"))
  k_with "compareOp NotIn str ref" => (k_here; k_dflt (refine' notin_tuple_strs ?k1 ?k2 ?_; (case k1 => exact tupK (by k_in) (by k_is)); (case k2 => kde_strs); k_whole))
  k_with "compareOp In str ref" => (k_here; k_dflt (refine' in_tuple_strs ?k1 ?k2 ?_; (case k1 => exact tupK (by k_in) (by k_is)); (case k2 => kde_strs); k_whole))
  k_with "setItem ref str" => (k_here; k_dflt (refine' setItem_K PyProof.V.same_str (strKind_is _ _ _ _) ?v ?F ?N ?U ?d ?f ?_ ?z; (case F => k_asm); (case N => k_asm); (case U => k_updF); (case d => k_asm); (case f => k_asm); (case z => exact line_of_lenLe (n := 5) (by assumption) (by decide)); (case v => k_flat)); intro h' o' F' N' hd' hf'; (try dsimp only at N'); (try k_sweep))
  k_with "compareOp Eq ref str" => (k_here; k_dflt (refine' eq_tup_str ?k1 ?k2 ?k3 ?_; (case k1 => k_asm); (case k2 => k_mem); (case k3 => exact Nat.le_of_ble_eq_true rfl); k_whole))
  k_with "CompSrc" => (k_here; k_dflt (k_extra "m src"))
  k_with "CompEnd" => (k_here; k_extra "m compend")
  k_with "call builtin:sorted" => (k_here; k_dflt (k_extra "m sorted"))
  k_with "compareOp NotEq str str" => (k_here; k_extra "m neq")
  k_with "compareOp Eq str str" => (k_here; k_extra "m eqs")
  k_with "call builtin:str.join" => (k_here; k_dflt (k_extra "m join"))
  k_with "eval Lambda" => (k_here; k_dflt (k_extra "m lam"))
  k_with "compareOp NotEq int int" => (k_here; k_dflt (k_extra "m neqi"))
  k_with "compareOp NotEq ref ref" => (k_here; k_dflt (k_extra "m neqt"))
  k_with "call builtin:len" => (k_here; k_dflt (k_extra "m len"))
  k_with "binaryOp Add ref ref" => (k_here; k_dflt (k_extra "m addl"))
  k_with "eval ListComp" => (k_here; k_extra "m comp")
  k_with "subscriptTail" => (k_here; k_dflt (k_extra "m item"))
  k_with "execs cons" => (k_here; k_extra "m stmt")
  trivial
inductive MatchPost (w : World) (C : MC) (tb : Tok) (lf1 lf2 : Leaf) : Value → Led → Prop
  | none (n' : Int) (tn' : Tok) (hr : startR C.S lf1 lf2 C.b = none) : MatchPost w C tb lf1 lf2 .none ([hD w C n' tn'] ++ vD C ++ stayL w C)
  | some (m e n' : Int) (tn' t tx ty : Tok) (ra la pr : Addr) (k : Nat) (od' : Obj) (lv' : List Value) (ln' : Nat) (hr : startR C.S lf1 lf2 C.b = some (m, e)) (h1 : C.b ≤ m) (h2 : m ≤ e) (h3 : e ≤ C.S.length)
      (q1 : od'.IsDictOf (strKind PW w) [(Str.ofString "V", .str (Txt.slice C.S (some m) (some e)) ty)]) (q2 : V.FlatPairs PyData.str [(Str.ofString "V", .str (Txt.slice C.S (some m) (some e)) ty)] [(PyData.str (Str.ofString "V"), PyData.str (Txt.slice C.S (some m) (some e)))]) (q3 : lv'.length ≤ C.lv.length + 1) (a1 : @Ne Nat la C.lg) (a2 : @Ne Nat la C.rl) :
      MatchPost w C tb lf1 lf2 (.ref ra) ([(ra, tup [.int C.b tb, .int e t, .ref la]), (la, listOf [Value.ref pr].toArray k), (pr, tup [.ref C.wr, .str (Txt.slice C.S (some C.b) (some m)) tx]), hD w C n' tn', (C.vd, od'), (C.lg, listOf lv'.toArray ln')] ++ stayL w C)
theorem match_spec {w : World} {lo : List Str} {mean mg mb} {C : MC} {ts tb tn : Tok} {n : Int} {lf1 lf2 : Leaf} (hl1 : LeafObj C.o1 lf1) (hl2 : LeafObj C.o2 lf2) (hk1 : lf1.ok) (hk2 : lf2.ok) (hc1 : C.o1.cls = TUP) (hc2 : C.o2.cls = TUP)
    (hd1 : C.od.IsDictOf (strKind PW w) []) (hd2 : V.FlatPairs PyData.str [] []) (hd3 : (C.vd == sysModules) = false) (hd4 : PyProof.V.LenLe [] 5) (hlv : C.lv.length < 10) (h3 : C.S.length < 100) (h0 : 0 ≤ C.b) (h1 : C.b ≤ C.S.length) (hn0 : 0 ≤ n) (hn1 : n ≤ 5)
    (n2 : @Ne Nat C.hd C.vd) (n4 : @Ne Nat C.rd C.vd) (n11 : @Ne Nat C.rl C.lg) (n5 : @Ne Nat C.hd C.rd) :
    Spec w lo mean mg mb 530 1350 397 [.ref C.no, .str C.S ts, .int C.b tb, .ref C.hs]
      [(C.no, tup [.str (Str.ofString "cat") C.t0, .ref C.f1, .ref C.f2]), (C.f1, tup [.str (Str.ofString "later") C.t1, .ref C.l1, .ref C.wr]), (C.f2, tup [.str (Str.ofString "now") C.t2, .ref C.l2, .ref C.vr]), (C.l1, C.o1), (C.l2, C.o2), (C.hs, instObj 229 C.hd), hD w C n tn, (C.vr, instObj 138 C.rd), (C.rd, refD w C.j1 C.j2 C.j3 (Str.ofString "V") C.u1 C.u3), (C.rl, listOf #[] C.rn), (C.vd, C.od), (C.lg, listOf C.lv.toArray C.ln)]
      (MatchPost w C tb lf1 lf2) := by
  intro gd frs base g s Q E B X T st sz N hret
  k_with "m call" => (
    refine' use_spec ?B ?F ?X ?T ?N ?hA ?hf ?hk ?hh ?hd ?hu (tried_spec hl1 hl2 hk1 hk2 hc1 hc2 hd1 hd2 hd3 hd4 hlv h3 h0 h1 hn0 hn1 n2 n4 n11 n5) ?tk ?off ?_
    k_extra "m use"
    k_whole
    rintro _ h' tk' _ F' N' (⟨n', tn', hr⟩ | ⟨m, e, n', tn', t, tx, ty, ra, la, pr, k, od', lv', ln', hr, hb1, hb2, hb3, hq1, hq2, hq3, ha1, ha2⟩) hO
    all_goals (
      clear hO
      (try dsimp only [List.cons_append, List.nil_append] at N')
      (try dsimp only)
      (try k_fold)))
  refine' enterS [(Str.ofString "node", .ref C.no), (Str.ofString "subject", .str C.S ts), (Str.ofString "begin", .int C.b tb), (Str.ofString "host", .ref C.hs)] ?k1 ?k2 ?k3 ?k4 ?k5 ?k6 ?k7 ?hb ?hs ?k8 ?k9 ?k10 ?k11 ?_ ?c1 ?c2 ?c3 ?c4
  k_extra "m enter"
  k_steps
  · k_extra "m end"
    (case e3 => exact .none n' tn' hr)
    (case e2 => k_extra "m out")
  · rename_i Dra g2 F2 N2 l1b
    k_extra "m end"
    (case e3 => exact .some m e n' tn' t tx ty Dra la pr k od' lv' ln' hr hb1 hb2 hb3 hq1 hq2 hq3 ha1 ha2)
    (case e2 => k_extra "m out")
end

section
theorem regMBj : (fun (_ : OpenLaw) (_ : Params → Frag) => True) PySem.Challenge.rw_sj0197_01 KF := by
  k_with_none
  k_with "m enter" => (
    (case k1 => exact B); (case k2 => exact X); (case k3 => exact T); (case k4 => exact st); (case k5 => exact sz); (case k6 => exact N)
    (case k7 => k_dflt k_is)
    (case hb => (conv => lhs; whnf))
    (case hs => (conv => lhs; whnf))
    (case k8 => k_dflt k_is)
    (case k9 => decide)
    (case k10 => exact BindsTo.of_eq rfl)
    (case k11 => exact locs rfl)
    (case c1 => exact rfl); (case c2 => exact rfl); (case c3 => exact rfl); (case c4 => decide)
    clear st sz N
    intro L h F N'
    (try dsimp only)
    (try k_fold))
  k_with "m end" => ((try k_unfold); (try dsimp only); refine' hret _ _ _ ?e1 ?e2 ?e3 ?e4; (case e1 => exact Fr.keep (by k_asm)); (case e4 => k_extra "m kept"))
  k_with "m kept" => (first | exact kept_nil | (refine' kept_tup ?ka ?kb ?kc; (case ka => k_asm); (case kb => k_mem); (case kc => k_extra "m kept")) | (refine' kept_not ?kd ?ke ?kf; (case kd => k_extra "m cls"); (case ke => decide); (case kf => k_extra "m kept")))
  k_with "m sub" => (first | exact subNil | exact subRefl | (refine' subStep ?su; (case su => k_extra "m sub")) | (refine' subUpS ?sk ?su; (case sk => ((fail_if_success (refine skipOf ?_; k_mem)); exact trivial)); (case su => k_extra "m sub")) | (refine' subCons ?sa ?sb; (case sa => k_mem); (case sb => k_extra "m sub")))
  k_with "m same" => (
    intro z h2 h3
    simp only [List.forall_mem_cons, List.not_mem_nil, false_implies, implies_true, and_true, ne_eq] at h2
    simp [kstB, h2])
  k_with "m same2" => (
    intro z h2 h3
    dsimp only [isPs, psOf] at h2
    simp only [List.forall_mem_cons, List.not_mem_nil, false_implies, implies_true, and_true, ne_eq] at h2
    simp only [List.contains_cons, List.contains_nil, Bool.or_false, Bool.or_eq_false_iff, beq_eq_false_iff_ne, ne_eq] at h3
    simp [kstB, h2, h3])
  k_with "m same3" => (
    intro z h2 h3
    simp only [List.forall_mem_cons, List.not_mem_nil, false_implies, implies_true, and_true, ne_eq] at h2
    simp only [List.contains_cons, List.contains_nil, Bool.or_false, beq_eq_false_iff_ne, ne_eq] at h3
    simp [kstB, h2, h3])
  k_with "m same4" => (
    intro z h2 h3
    simp only [List.forall_mem_cons, List.not_mem_nil, false_implies, implies_true, and_true, ne_eq] at h2
    simp only [List.contains_cons, List.contains_nil, Bool.or_false, Bool.or_eq_false_iff, beq_eq_false_iff_ne, ne_eq] at h3
    simp [kstB, h2, h3])
  k_with "m led" => (dsimp only [isLed, osLed, fxL, vD, hD, List.cons_append, List.nil_append]; k_extra "m sub")
  k_with "m ps" => (dsimp only [isPs, psOf]; kst_all)
  k_with "m all" => exact newsOut (by k_asm)
  k_with "m outA" => exact newsSub (by k_asm) (subApp (by k_extra "m sub"))
  k_with "m out" => exact newsSub (by k_asm) (by k_extra "m sub")
  k_with "m t1" => (first | with_reducible exact Take1.head | (refine' Take1.tail ?mt; (case mt => k_extra "m t1")))
  k_with "m take" => (first | exact TakeL.nil | (refine' TakeL.cons ?ma ?mb; (case ma => k_extra "m t1"); (case mb => k_extra "m take")))
  k_with "m cls" => (first | assumption | exact dict_cls (by assumption) | (conv => lhs; whnf))
  k_with "m nocell" => exact rfl
  k_with "m ne" => (first | assumption | (refine Ne.symm ?_; assumption) | (refine' ne_cls ?na ?nb ?nc ?nd ?nf ?ng; (case na => k_asm); (case nb => k_mem); (case nc => k_mem); (case nd => k_extra "m cls"); (case nf => k_extra "m cls"); (case ng => decide)) | (refine' ne_cell ?na ?nb ?nc ?nd ?nf; (case na => k_asm); (case nb => k_mem); (case nc => k_mem); (case nd => assumption); (case nf => k_extra "m nocell")) | (refine Ne.symm ?_; refine' ne_cell ?na ?nb ?nc ?nd ?nf; (case na => k_asm); (case nb => k_mem); (case nc => k_mem); (case nd => assumption); (case nf => k_extra "m nocell")) | (refine neN ?_; (try dsimp only); omega))
  k_with "m ne1" => (first | exact ne1_nil | (refine' ne1_tup ?nt ?nu; (case nt => first | exact rfl | assumption); (case nu => k_extra "m ne1")) | (refine' ne1_cls ?n1 ?n2 ?n3 ?n4; (case n1 => k_extra "m cls"); (case n2 => k_extra "m cls"); (case n3 => decide); (case n4 => k_extra "m ne1")) | (refine' ne1_cell ?n1 ?n2 ?n4; (case n1 => assumption); (case n2 => k_extra "m nocell"); (case n4 => k_extra "m ne1")) | (refine' ne1_cons ?nv ?nw; (case nv => k_extra "m ne"); (case nw => k_extra "m ne1")))
  k_with "m off" => (first | exact off_nil | k_extra "m offop" | (refine' off_consT ?oc ?ob; (case oc => first | exact rfl | assumption); (case ob => k_extra "m off")) | (refine' off_cons ?oa ?ob; (case oa => k_extra "m ne1"); (case ob => k_extra "m off")))
  k_with "m use" => (
    (case hA => exact rfl); (case hf => exact rfl); (case hk => exact rfl); (case hh => exact rfl)
    (case B => k_asm); (case F => k_asm); (case X => k_asm); (case T => k_asm); (case N => k_asm)
    (case hd => exact Nat.le_of_ble_eq_true rfl); (case hu => exact Nat.le_of_ble_eq_true rfl)
    (case tk => k_extra "m take")
    (case off => k_extra "m off"))
  k_with "call ref" => (k_here; k_dflt (k_extra "m call"))
  k_with "compareOp NotIn str ref" => (k_here; k_dflt (refine' notin_tuple_strs ?k1 ?k2 ?_; (case k1 => exact tupK (by k_in) (by k_is)); (case k2 => kde_strs); k_whole))
  k_with "compareOp In str ref" => (k_here; k_dflt (refine' in_tuple_strs ?k1 ?k2 ?_; (case k1 => exact tupK (by k_in) (by k_is)); (case k2 => kde_strs); k_whole))
  k_with "setItem ref str" => (k_here; k_dflt (refine' setItem_K PyProof.V.same_str (strKind_is _ _ _ _) ?v ?F ?N ?U ?d ?f ?_ ?z; (case F => k_asm); (case N => k_asm); (case U => k_updF); (case d => k_asm); (case f => k_asm); (case z => exact line_of_lenLe (n := 5) (by assumption) (by decide)); (case v => k_flat)); intro h' o' F' N' hd' hf'; (try dsimp only at N'); (try k_sweep))
  k_with "compareOp Eq ref str" => (k_here; k_dflt (refine' eq_tup_str ?k1 ?k2 ?k3 ?_; (case k1 => k_asm); (case k2 => k_mem); (case k3 => exact Nat.le_of_ble_eq_true rfl); k_whole))
  k_with "CompSrc" => (k_here; k_dflt (k_extra "m src"))
  k_with "CompEnd" => (k_here; k_extra "m compend")
  k_with "call builtin:sorted" => (k_here; k_dflt (k_extra "m sorted"))
  k_with "compareOp NotEq str str" => (k_here; k_extra "m neq")
  k_with "compareOp Eq str str" => (k_here; k_extra "m eqs")
  k_with "call builtin:str.join" => (k_here; k_dflt (k_extra "m join"))
  k_with "eval Lambda" => (k_here; k_dflt (k_extra "m lam"))
  k_with "compareOp NotEq int int" => (k_here; k_dflt (k_extra "m neqi"))
  k_with "compareOp NotEq ref ref" => (k_here; k_dflt (k_extra "m neqt"))
  k_with "call builtin:len" => (k_here; k_dflt (k_extra "m len"))
  k_with "binaryOp Add ref ref" => (k_here; k_dflt (k_extra "m addl"))
  k_with "eval ListComp" => (k_here; k_extra "m comp")
  k_with "subscriptTail" => (k_here; k_dflt (k_extra "m item"))
  k_with "execs cons" => (k_here; k_extra "m stmt")
  trivial
noncomputable def turnBody : List Stmt := match nth (bodOf (stAt 64)) 3 with | .For _ _ b _ _ => b | _ => []
noncomputable def laterArgs : List PySem.Expr := match nth turnBody 5 with | .Assign _ (.Call _ a _ _) _ => a | _ => []
noncomputable def nthE : List PySem.Expr → Nat → PySem.Expr
  | [], _ => .Constant .none 0 ⟨0, 0, 0, 0⟩
  | s :: _, 0 => s
  | _ :: r, n + 1 => nthE r n
noncomputable def putT (form : Int) (word rest : Str) : Str := if form = 0 then Str.ofString "" else if form = 1 then Str.ofString "x" else if form = 2 then rest ++ word else Txt.slice (word ++ Str.ofString "y" ++ word) none (some 6)
theorem slice6 (X : Str) : (Txt.slice X none (some 6)).length ≤ 6 := by
  by_cases h : X.length ≤ 6
  · exact Nat.le_trans (Txt.length_slice_le _ _ _) h
  · rw [← cs_len, cs_slice_to (by decide) (by omega), List.length_take]
    exact Nat.min_le_left _ _
theorem put_len2 {form : Int} {word rest : Str} {n : Nat} (h1 : word.length ≤ n) (h2 : rest.length ≤ n) : (putT form word rest).length ≤ 2 * n + 6 := by
  unfold putT
  split
  · exact Nat.zero_le _
  · split
    · exact Nat.le_trans (show (Str.ofString "x").length ≤ 1 by decide) (by omega)
    · split
      · rw [Str.length_append]; omega
      · exact Nat.le_trans (slice6 _) (by omega)
inductive RepPost (w : World) (C : MC) (form : Int) (lf1 lf2 : Leaf) (cP cF : Addr) (oP oF : Obj) : Value → Led → Prop
  | none (n' : Int) (tn' : Tok) (hr : startR C.S lf1 lf2 C.b = none) : RepPost w C form lf1 lf2 cP cF oP oF .none [(C.hs, instObj 229 C.hd), hD w C n' tn', (C.vd, C.od), (cP, oP), (cF, oF)]
  | some (m e n' : Int) (tn' t tx ty : Tok) (od' : Obj) (hr : startR C.S lf1 lf2 C.b = some (m, e)) (h1 : C.b ≤ m) (h2 : m ≤ e) (h3 : e ≤ C.S.length)
      (q1 : od'.IsDictOf (strKind PW w) [(Str.ofString "V", .str (Txt.slice C.S (some m) (some e)) ty), (Str.ofString "W", .str (Txt.slice C.S (some C.b) (some m)) tx)])
      (q2 : V.FlatPairs PyData.str [(Str.ofString "V", .str (Txt.slice C.S (some m) (some e)) ty), (Str.ofString "W", .str (Txt.slice C.S (some C.b) (some m)) tx)] [(PyData.str (Str.ofString "V"), PyData.str (Txt.slice C.S (some m) (some e))), (PyData.str (Str.ofString "W"), PyData.str (Txt.slice C.S (some C.b) (some m)))]) :
      RepPost w C form lf1 lf2 cP cF oP oF (.str (splT C.S (putT form (Txt.slice C.S (some C.b) (some m)) (Txt.slice C.S (some m) (some e))) C.b e) t) [(C.hs, instObj 229 C.hd), hD w C n' tn', (C.vd, od'), (cP, oP), (cF, oF)]
def SpecG (w : World) (lo : List Str) (mean : ExcName → Option Value) (mg mb : Str → Option Value) (ext : Led) (d u : Nat) (f : Addr) (args : List Value) (pre : Led) (Post : Value → Led → Prop) : Prop :=
  ∀ (gd : Option (List Code)) (frs : List Env) (base g : Heap) (s : Shared) (Q E : Value → Shared → Prop),
    Below (ARD d u gd frs) base frs g → (KF w.params).In g → Top topProg lo mean mg mb g → g.StaysIn s.heap → g.objs.size ≤ s.heap.objs.size →
    (∀ p ∈ pre, s.heap.get? p.1 = some p.2 ∧ g.get? p.1 = none) → (∀ p ∈ ext, g.get? p.1 = some p.2) →
    (∀ r h' tk' {post : Led}, g.StaysIn h' → (∀ p ∈ post, h'.get? p.1 = some p.2 ∧ g.get? p.1 = none) → Post r post → Kept h' pre → Q r { s with heap := h', toks := tk' }) →
    wpAny (model PW w) (ARD d u gd frs) (call (.ref f) args) Q E s
theorem use_specG {w : World} {lo : List Str} {mean : ExcName → Option Value} {mg mb : Str → Option Value} {d u : Nat} {f : Addr} {args : List Value} {ext pre rest news : Led} {Post : Value → Led → Prop}
    {A A₀ : Around} {base h₀ : Heap} {outer : List Env} {env : Env} {L : Addr} {m : Str → Option Value} {s : Shared} {Q E : Value → Shared → Prop}
    (B : Below A₀ base outer h₀) (F : Fr h₀ L s.heap m) (X : (KF w.params).In h₀) (T : Top topProg lo mean mg mb h₀) (N : News h₀ L s.heap news)
    (hA : A.frames = some (env :: outer)) (hf : env.frame = some L) (hk : env.scope.kind = .function) (hh : A.handled = none) (hd : A.depth ≤ d) (hu : A.units ≤ u)
    (S : SpecG w lo mean mg mb ext d u f args pre Post) (tk : TakeL pre news rest) (off : Off rest pre) (hext : ∀ p ∈ ext, p ∈ rest ∧ IsCode p.2) (hnf : ∀ q ∈ pre, noFields q.2 = true)
    (ret : ∀ r h' tk' post, Fr h₀ L h' m → News h₀ L h' (post ++ rest) → Post r post → (∀ p ∈ rest, ∀ q ∈ post, q.2.cls ≠ TUP → p.1 ≠ q.1) → Q r { s with heap := h', toks := tk' }) :
    wpAny (model PW w) A (call (.ref f) args) Q E s := by
  have Np : News h₀ L s.heap pre := fun p hp => N p (tk.mem p hp)
  obtain ⟨FG, BG, st, _⟩ := groundX (R := fun _ _ => True) B F Np hA hf hk
  refine up hh hA hd hu (S _ _ _ _ _ _ _ ⟨rfl, BG.stays, BG.frames⟩ (X.keeps st) (T.keeps st) (fun b o e => of_hideAll _ e) (Nat.le_of_eq (hideAll_size _ _))
    (fun p hp => ⟨(Np p hp).1, hideAll_none _ (List.mem_map_of_mem hp)⟩) (fun p hp => hideAll_get _ (N p (tk.sub p (hext p hp).1)).1 fun hm => ?_) fun r h' tk' {post} hst hpost hP hkept => ?_)
  · obtain ⟨q, hq, e⟩ := List.mem_map.mp hm
    have a := (Np q hq).1
    rw [e, (N p (tk.sub p (hext p hp).1)).1] at a
    exact noCode (hnf q hq) (by rw [← Option.some.inj a]; exact (hext p hp).2)
  obtain ⟨oL, es, ep, hL, hLd, hLk, hLf⟩ := FG.ns
  have hrest : ∀ p ∈ rest, (∃ q ∈ pre, q.2.cls = TUP ∧ q.1 = p.1 ∧ q.2 = p.2) ∨ (hideAll s.heap (pre.map (·.1))).get? p.1 = some p.2 := fun p hp => by
    by_cases hm : p.1 ∈ pre.map (·.1)
    · obtain ⟨q, hq, e⟩ := List.mem_map.mp hm
      have a := (Np q hq).1
      rw [e, (N p (tk.sub p hp)).1] at a
      have a := Option.some.inj a
      rcases off p hp q hq with h | h | h
      · exact .inl ⟨q, hq, h, e, a.symm⟩
      · exact absurd a h
      · exact absurd e.symm h
    · exact .inr (hideAll_get _ (N p (tk.sub p hp)).1 hm)
  have hrest' : ∀ p ∈ rest, h'.get? p.1 = some p.2 := fun p hp => by
    rcases hrest p hp with ⟨q, hq, h1, h2, h3⟩ | h
    · rw [← h2, ← h3]; exact hkept q hq h1
    · exact hst _ _ h
  refine ret r h' tk' post ⟨⟨oL, es, ep, hst L oL hL, hLd, hLk, hLf⟩, fun b o e => hst b o (FG.keep b o e), FG.above⟩ (fun p hp => ?_) hP fun p hp q hq hc e => ?_
  · rcases List.mem_append.mp hp with hp | hp
    · refine ⟨(hpost p hp).1, fun q => ?_, ?_⟩
      · have := (hpost p hp).2
        rw [q, hL] at this; cases this
      · cases q : h₀.get? p.1 with
        | none => rfl
        | some o => have := (hpost p hp).2; rw [st _ _ q] at this; cases this
    · exact ⟨hrest' p hp, (N p (tk.sub p hp)).2⟩
  · rcases hrest p hp with ⟨q', hq', h1, h2, h3⟩ | h
    · have a := hkept q' hq' h1
      rw [h2, e, (hpost q hq).1] at a
      exact hc (Option.some.inj a ▸ h1)
    · have := (hpost q hq).2
      rw [← e, h] at this; cases this

theorem dict_noCell {prog : Program} {w : World} {K : Type} [DecidableEq K] {knd : KeyKind prog w K} {o : Obj} {kvs : List (K × Value)} (h : o.IsDictOf knd kvs) : (match o.data with | .cell _ => true | _ => false) = false := by
  obtain ⟨es, ep, _, hd, _⟩ := h
  rw [hd]
theorem dict_noFields {prog : Program} {w : World} {K : Type} [DecidableEq K] {knd : KeyKind prog w K} {o : Obj} {kvs : List (K × Value)} (h : o.IsDictOf knd kvs) : noFields o = true := by
  obtain ⟨es, ep, _, hd, _⟩ := h
  unfold noFields
  rw [hd]
theorem rep_spec {w : World} {lo : List Str} {mean mg mb} {C : MC} {ts tb tn tf : Tok} {n form : Int} {lf1 lf2 : Leaf} {m1 m2 c1 c2 cP cF rw : Addr} {p1 p2 : Arguments} {b1 b2 : PySem.Expr} {s1 s2 : Scope} {q1 q2 : Pos} {pm ct1 ct2 : Value} {k1 k2 oP oF : Obj} {jw1 jw2 jw3 uw1 uw3 : Tok}
    {gx : Heap} (hCH : CodeHd gx 476 474) (e1 : nthE laterArgs 0 = .Lambda p1 b1 s1 q1) (e2 : nthE laterArgs 5 = .Lambda p2 b2 s2 q2) (i1 : IsCode k1) (i2 : IsCode k2) (dP : oP.data = .cell (some (.int C.b tb))) (dF : oF.data = .cell (some (.int form tf))) (hf : 0 ≤ form ∧ form < 4)
    (hl1 : LeafObj C.o1 lf1) (hl2 : LeafObj C.o2 lf2) (hk1 : lf1.ok) (hk2 : lf2.ok) (hc1 : C.o1.cls = TUP) (hc2 : C.o2.cls = TUP)
    (hd1 : C.od.IsDictOf (strKind PW w) []) (hd2 : V.FlatPairs PyData.str [] []) (hd3 : (C.vd == sysModules) = false) (hlv : C.lv = []) (h3 : C.S.length < 100) (h0 : 0 ≤ C.b) (h1 : C.b ≤ C.S.length) (hn0 : 0 ≤ n) (hn1 : n ≤ 5)
    (n2 : @Ne Nat C.hd C.vd) (n4 : @Ne Nat C.rd C.vd) (n11 : @Ne Nat C.rl C.lg) (n5 : @Ne Nat C.hd C.rd) (n6 : @Ne Nat rw C.vd) (n7 : @Ne Nat rw C.hd) (n8 : @Ne Nat rw C.rd) (n9 : @Ne Nat C.wr C.vr) :
    SpecG w lo mean mg mb [(c1, k1), (c2, k2)] 440 250 42 [.ref m1, .ref C.no, .str C.S ts, .bool true, .ref C.hs, .ref m2]
      [(m1, kla_obj "<lambda>" lamQ p1 b1 s1 [(Str.ofString "place", cP)] pm c1 ct1), (m2, kla_obj "<lambda>" lamQ p2 b2 s2 [(Str.ofString "form", cF)] pm c2 ct2), (cP, oP), (cF, oF),
        (C.no, tup [.str (Str.ofString "cat") C.t0, .ref C.f1, .ref C.f2]), (C.f1, tup [.str (Str.ofString "later") C.t1, .ref C.l1, .ref C.wr]), (C.f2, tup [.str (Str.ofString "now") C.t2, .ref C.l2, .ref C.vr]), (C.l1, C.o1), (C.l2, C.o2), (C.hs, instObj 229 C.hd), hD w C n tn, (C.vr, instObj 138 C.rd), (C.rd, refD w C.j1 C.j2 C.j3 (Str.ofString "V") C.u1 C.u3), (C.rl, listOf #[] C.rn), (C.vd, C.od), (C.lg, listOf C.lv.toArray C.ln),
        (C.wr, instObj 138 rw), (rw, refD w jw1 jw2 jw3 (Str.ofString "W") uw1 uw3)]
      (RepPost w C form lf1 lf2 cP cF oP oF) := by
  intro gd frs base g s Q E B X T st sz N hex hret
  have hg1 := hex _ (.head _)
  have hg2 := hex _ (.tail _ (.head _))
  dsimp only at hg1 hg2
  obtain ⟨kv1, kt1, kd1, kh1⟩ := i1
  obtain ⟨kv2, kt2, kd2, kh2⟩ := i2
  (conv at e1 => lhs; whnf)
  (conv at e2 => lhs; whnf)
  cases e1
  cases e2
  k_with "m nocell" => (first | exact rfl | exact dict_noCell (by assumption))
  k_with "m call" => (first
    | (refine' use_spec ?B ?F ?X ?T ?N ?hA ?hf ?hk ?hh ?hd ?hu (match_spec hl1 hl2 hk1 hk2 hc1 hc2 hd1 hd2 hd3 (Nat.zero_le _) (by rw [hlv]; decide) h3 h0 h1 hn0 hn1 n2 n4 n11 n5) ?tk ?off ?_
       k_extra "m use"
       k_whole
       rintro _ h' tk' _ F' N' (⟨n', tn', hr⟩ | ⟨mm, ee, n', tn', tt, tx, ty, fa, fl, pr, kk, od', lv', ln', hr, hb1, hb2, hb3, hq1, hq2, hq3, ha1, ha2⟩) hO
       all_goals (
         clear hO
         (try dsimp only [List.cons_append, List.nil_append] at N')
         (try dsimp only)
         (try k_fold)))
    | (refine' use_spec ?B ?F ?X ?T ?N ?hA ?hf ?hk ?hh ?hd ?hu (give_spec hq1 hq2 hd3 ?g1 ?g2 ?g3 ?g4 n2 n6 n11 ha1 ha2) ?tk ?off ?_
       k_extra "m use"
       (case g1 => exact Nat.le_of_ble_eq_true rfl); (case g2 => omega); (case g3 => decide); (case g4 => exact Nat.lt_of_le_of_lt (Txt.length_slice_le _ _ _) (by omega))
       k_whole
       rintro _ h' tk' _ F' N' ⟨od2, da, rfl, hz1, hz2, rfl⟩ hO
       clear hO
       (try dsimp only [List.cons_append, List.nil_append] at N')
       (try dsimp only)
       (try k_fold))
    | (refine' use_spec ?B ?F ?X ?T ?N ?hA ?hf ?hk ?hh ?hd ?hu (put_spec ?g1 ?g2 ?g3) ?tk ?off ?_
       k_extra "m use"
       (case g1 => omega); (case g2 => exact Nat.lt_of_le_of_lt (Txt.length_slice_le _ _ _) (by omega)); (case g3 => exact Nat.lt_of_le_of_lt (Txt.length_slice_le _ _ _) (by omega))
       k_whole
       rintro _ h' tk' _ F' N' ⟨v, tv, rfl, rfl, hv⟩ hO
       clear hO
       (have hvl : v.length ≤ 2 * C.S.length + 6 := by (rw [hv]; exact put_len2 (Txt.length_slice_le _ _ _) (Txt.length_slice_le _ _ _)))
       (try dsimp only [List.cons_append, List.nil_append] at N')
       (try dsimp only)
       (try k_fold))
    | (refine' use_spec ?B ?F ?X ?T ?N ?hA ?hf ?hk ?hh ?hd ?hu (spliced_spec ?g1 ?g2) ?tk ?off ?_
       k_extra "m use"
       (case g1 => omega); (case g2 => omega)
       k_whole
       rintro _ h' tk' _ F' N' ⟨t1, rfl, rfl⟩ hO
       clear hO
       (try dsimp only [List.cons_append, List.nil_append] at N')
       (try dsimp only)
       (try k_fold))
    | (fail_if_success (with_reducible show wpAny _ _ (call (Value.ref m1) _) _ _ _)
       fail_if_success (with_reducible show wpAny _ _ (call (Value.ref m2) _) _ _ _)
       refine stopHere ?_)
    | (refine wpAny_call ?_
       refine' kla_code ?k1 ?k2 ?k3 ?k4 ?k5 ?kA ?kF ?kK ?k6 ?k7 ?k8 ?k9 ?kB ?_ ?c2 ?c3 ?c4 ?c5; (case kA => exact rfl); (case kF => exact rfl); (case kK => exact rfl); (case k1 => k_asm); (case k2 => k_asm); (case k3 => k_asm); (case k4 => k_asm); (case k5 => k_asm); (case k6 => k_mem)
       (case k7 => first | exact ⟨_, _, _, _, rfl, Fr.keep (by k_asm) _ _ hg1, kd1, kh1⟩ | exact ⟨_, _, _, _, rfl, Fr.keep (by k_asm) _ _ hg2, kd2, kh2⟩)
       (case k8 => k_room); (case k9 => exact rfl); (case c5 => decide); (case kB => exact locs rfl); (case c2 => exact rfl); (case c3 => exact rfl); (case c4 => exact rfl); k_whole; intro g' L' h' FG' F' N' B' X' T'; (try dsimp only); (try k_lift B'); (try k_fold)))
  refine' enterS [(Str.ofString "matcher", .ref m1), (Str.ofString "node", .ref C.no), (Str.ofString "subject", .str C.S ts), (Str.ofString "is_anchored", .bool true), (Str.ofString "host", .ref C.hs), (Str.ofString "text_of", .ref m2)] ?k1 ?k2 ?k3 ?k4 ?k5 ?k6 ?k7 ?hb ?hs ?k8 ?k9 ?k10 ?k11 ?_ ?c1 ?c2 ?c3 ?c4
  k_extra "m enter"
  have hlv2 : C.lv.length = 0 := by rw [hlv]; rfl
  k_steps
  · k_extra "m end"
    (case e3 => exact .none n' tn' hr)
    (case e2 => k_extra "m out")
  · k_extra "m end"
    (case e3 => (rw [hv]; exact .some mm ee n' tn' t1 tx ty od2 hr hb1 hb2 hb3 hz1 hz2))
    (case e2 => k_extra "m out")
end

section
theorem regMBf : (fun (_ : OpenLaw) (_ : Params → Frag) => True) PySem.Challenge.rw_sj0197_01 KF := by
  k_with_none
  k_with "m enter" => (
    (case k1 => exact B); (case k2 => exact X); (case k3 => exact T); (case k4 => exact st); (case k5 => exact sz); (case k6 => exact N)
    (case k7 => k_dflt k_is)
    (case hb => (conv => lhs; whnf))
    (case hs => (conv => lhs; whnf))
    (case k8 => k_dflt k_is)
    (case k9 => decide)
    (case k10 => exact BindsTo.of_eq rfl)
    (case k11 => exact locs rfl)
    (case c1 => exact rfl); (case c2 => exact rfl); (case c3 => exact rfl); (case c4 => decide)
    clear st sz N
    intro L h F N'
    (try dsimp only)
    (try k_fold))
  k_with "m end" => ((try k_unfold); (try dsimp only); refine' hret _ _ _ ?e1 ?e2 ?e3 ?e4; (case e1 => exact Fr.keep (by k_asm)); (case e4 => k_extra "m kept"))
  k_with "m kept" => (first | exact kept_nil | (refine' kept_tup ?ka ?kb ?kc; (case ka => k_asm); (case kb => k_mem); (case kc => k_extra "m kept")) | (refine' kept_not ?kd ?ke ?kf; (case kd => k_extra "m cls"); (case ke => decide); (case kf => k_extra "m kept")))
  k_with "m sub" => (first | exact subNil | exact subRefl | (refine' subStep ?su; (case su => k_extra "m sub")) | (refine' subUpS ?sk ?su; (case sk => ((fail_if_success (refine skipOf ?_; k_mem)); exact trivial)); (case su => k_extra "m sub")) | (refine' subCons ?sa ?sb; (case sa => k_mem); (case sb => k_extra "m sub")))
  k_with "m same" => (
    intro z h2 h3
    simp only [List.forall_mem_cons, List.not_mem_nil, false_implies, implies_true, and_true, ne_eq] at h2
    simp [kstB, h2])
  k_with "m same2" => (
    intro z h2 h3
    dsimp only [isPs, psOf] at h2
    simp only [List.forall_mem_cons, List.not_mem_nil, false_implies, implies_true, and_true, ne_eq] at h2
    simp only [List.contains_cons, List.contains_nil, Bool.or_false, Bool.or_eq_false_iff, beq_eq_false_iff_ne, ne_eq] at h3
    simp [kstB, h2, h3])
  k_with "m same3" => (
    intro z h2 h3
    simp only [List.forall_mem_cons, List.not_mem_nil, false_implies, implies_true, and_true, ne_eq] at h2
    simp only [List.contains_cons, List.contains_nil, Bool.or_false, beq_eq_false_iff_ne, ne_eq] at h3
    simp [kstB, h2, h3])
  k_with "m same4" => (
    intro z h2 h3
    simp only [List.forall_mem_cons, List.not_mem_nil, false_implies, implies_true, and_true, ne_eq] at h2
    simp only [List.contains_cons, List.contains_nil, Bool.or_false, Bool.or_eq_false_iff, beq_eq_false_iff_ne, ne_eq] at h3
    simp [kstB, h2, h3])
  k_with "m led" => (dsimp only [isLed, osLed, fxL, vD, hD, List.cons_append, List.nil_append]; k_extra "m sub")
  k_with "m ps" => (dsimp only [isPs, psOf]; kst_all)
  k_with "m all" => exact newsOut (by k_asm)
  k_with "m outA" => exact newsSub (by k_asm) (subApp (by k_extra "m sub"))
  k_with "m out" => exact newsSub (by k_asm) (by k_extra "m sub")
  k_with "m t1" => (first | with_reducible exact Take1.head | (refine' Take1.tail ?mt; (case mt => k_extra "m t1")))
  k_with "m take" => (first | exact TakeL.nil | (refine' TakeL.cons ?ma ?mb; (case ma => k_extra "m t1"); (case mb => k_extra "m take")))
  k_with "m cls" => (first | assumption | exact dict_cls (by assumption) | (conv => lhs; whnf))
  k_with "m nocell" => exact rfl
  k_with "m ne" => (first | assumption | (refine Ne.symm ?_; assumption) | (refine' ne_cls ?na ?nb ?nc ?nd ?nf ?ng; (case na => k_asm); (case nb => k_mem); (case nc => k_mem); (case nd => k_extra "m cls"); (case nf => k_extra "m cls"); (case ng => decide)) | (refine' ne_cell ?na ?nb ?nc ?nd ?nf; (case na => k_asm); (case nb => k_mem); (case nc => k_mem); (case nd => assumption); (case nf => k_extra "m nocell")) | (refine Ne.symm ?_; refine' ne_cell ?na ?nb ?nc ?nd ?nf; (case na => k_asm); (case nb => k_mem); (case nc => k_mem); (case nd => assumption); (case nf => k_extra "m nocell")) | (refine neN ?_; (try dsimp only); omega))
  k_with "m ne1" => (first | exact ne1_nil | (refine' ne1_tup ?nt ?nu; (case nt => first | exact rfl | assumption); (case nu => k_extra "m ne1")) | (refine' ne1_cls ?n1 ?n2 ?n3 ?n4; (case n1 => k_extra "m cls"); (case n2 => k_extra "m cls"); (case n3 => decide); (case n4 => k_extra "m ne1")) | (refine' ne1_cell ?n1 ?n2 ?n4; (case n1 => assumption); (case n2 => k_extra "m nocell"); (case n4 => k_extra "m ne1")) | (refine' ne1_cons ?nv ?nw; (case nv => k_extra "m ne"); (case nw => k_extra "m ne1")))
  k_with "m off" => (first | exact off_nil | k_extra "m offop" | (refine' off_consT ?oc ?ob; (case oc => first | exact rfl | assumption); (case ob => k_extra "m off")) | (refine' off_cons ?oa ?ob; (case oa => k_extra "m ne1"); (case ob => k_extra "m off")))
  k_with "m use" => (
    (case hA => exact rfl); (case hf => exact rfl); (case hk => exact rfl); (case hh => exact rfl)
    (case B => k_asm); (case F => k_asm); (case X => k_asm); (case T => k_asm); (case N => k_asm)
    (case hd => exact Nat.le_of_ble_eq_true rfl); (case hu => exact Nat.le_of_ble_eq_true rfl)
    (case tk => k_extra "m take")
    (case off => k_extra "m off"))
  k_with "call ref" => (k_here; k_dflt (k_extra "m call"))
  k_with "compareOp NotIn str ref" => (k_here; k_dflt (refine' notin_tuple_strs ?k1 ?k2 ?_; (case k1 => exact tupK (by k_in) (by k_is)); (case k2 => kde_strs); k_whole))
  k_with "compareOp In str ref" => (k_here; k_dflt (refine' in_tuple_strs ?k1 ?k2 ?_; (case k1 => exact tupK (by k_in) (by k_is)); (case k2 => kde_strs); k_whole))
  k_with "setItem ref str" => (k_here; k_dflt (refine' setItem_K PyProof.V.same_str (strKind_is _ _ _ _) ?v ?F ?N ?U ?d ?f ?_ ?z; (case F => k_asm); (case N => k_asm); (case U => k_updF); (case d => k_asm); (case f => k_asm); (case z => exact line_of_lenLe (n := 5) (by assumption) (by decide)); (case v => k_flat)); intro h' o' F' N' hd' hf'; (try dsimp only at N'); (try k_sweep))
  k_with "compareOp Eq ref str" => (k_here; k_dflt (refine' eq_tup_str ?k1 ?k2 ?k3 ?_; (case k1 => k_asm); (case k2 => k_mem); (case k3 => exact Nat.le_of_ble_eq_true rfl); k_whole))
  k_with "CompSrc" => (k_here; k_dflt (k_extra "m src"))
  k_with "CompEnd" => (k_here; k_extra "m compend")
  k_with "call builtin:sorted" => (k_here; k_dflt (k_extra "m sorted"))
  k_with "compareOp NotEq str str" => (k_here; k_extra "m neq")
  k_with "compareOp Eq str str" => (k_here; k_extra "m eqs")
  k_with "call builtin:str.join" => (k_here; k_dflt (k_extra "m join"))
  k_with "eval Lambda" => (k_here; k_dflt (k_extra "m lam"))
  k_with "compareOp NotEq int int" => (k_here; k_dflt (k_extra "m neqi"))
  k_with "compareOp NotEq ref ref" => (k_here; k_dflt (k_extra "m neqt"))
  k_with "call builtin:len" => (k_here; k_dflt (k_extra "m len"))
  k_with "binaryOp Add ref ref" => (k_here; k_dflt (k_extra "m addl"))
  k_with "eval ListComp" => (k_here; k_extra "m comp")
  k_with "subscriptTail" => (k_here; k_dflt (k_extra "m item"))
  k_with "execs cons" => (k_here; k_extra "m stmt")
  trivial
theorem Trip.op {vs pl ts} (h : Trip vs pl ts) : OpT pl := by
  induction h with
  | nil => intro p hp; cases hp
  | cons _ ih => intro p hp; cases hp with
    | head => exact .inl ⟨_, rfl⟩
    | tail _ hp => exact ih p hp
abbrev Deed := Str × Int × Int × Str
inductive Quad : List Value → Led → List Deed → Prop
  | nil : Quad [] [] []
  | cons {a : Addr} {S t : Str} {b e : Int} {t1 t2 t3 t4 : Tok} {vs pl ds} : Quad vs pl ds → Quad (.ref a :: vs) ((a, tup [.str S t1, .int b t2, .int e t3, .str t t4]) :: pl) ((S, b, e, t) :: ds)
theorem Quad.op {vs pl ts} (h : Quad vs pl ts) : OpT pl := by
  induction h with
  | nil => intro p hp; cases hp
  | cons _ ih => intro p hp; cases hp with
    | head => exact .inl ⟨_, rfl⟩
    | tail _ hp => exact ih p hp
theorem Quad.append {vs pl ts vs' pl' ts'} (h : Quad vs pl ts) (h' : Quad vs' pl' ts') : Quad (vs ++ vs') (pl ++ pl') (ts ++ ts') := by
  induction h with | nil => exact h' | cons _ ih => exact .cons ih
theorem Quad.len {vs pl ts} (h : Quad vs pl ts) : vs.length = ts.length := by induction h with | nil => rfl | cons _ ih => simp [ih]
/-- what was done, the last one first -/
def ChnR (S0 : Str) : List Deed → Str → Prop
  | [], S => S = S0
  | (S', b, e, t) :: r, S => S = splT S' t b e ∧ 0 ≤ b ∧ b ≤ e ∧ e ≤ S'.length ∧ S'.length < 100 ∧ t.length < 100 ∧ S.length < 100 ∧ ChnR S0 r S'
theorem use_specM {w : World} {lo : List Str} {mean : ExcName → Option Value} {mg mb : Str → Option Value} {d u : Nat} {f : Addr} {args : List Value} {pre rest news : Led} {Post : Value → Led → Prop}
    {A A₀ : Around} {base h₀ : Heap} {outer : List Env} {env : Env} {L : Addr} {m : Str → Option Value} {s : Shared} {Q E : Value → Shared → Prop}
    (B : Below A₀ base outer h₀) (F : Fr h₀ L s.heap m) (X : (KF w.params).In h₀) (T : Top topProg lo mean mg mb h₀) (N : News h₀ L s.heap news)
    (hA : A.frames = some (env :: outer)) (hf : env.frame = some L) (hk : env.scope.kind = .function) (hh : A.handled = none) (hd : A.depth ≤ d) (hu : A.units ≤ u)
    (S : Spec w lo mean mg mb d u f args pre Post) (hm₀ : ∀ p ∈ pre, p ∈ news) (hs₀ : ∀ p ∈ rest, p ∈ news) (off : Off rest pre)
    (ret : ∀ r h' tk' post, Fr h₀ L h' m → News h₀ L h' (post ++ rest) → Post r post → (∀ p ∈ rest, ∀ q ∈ post, q.2.cls ≠ TUP → p.1 ≠ q.1) → Q r { s with heap := h', toks := tk' }) :
    wpAny (model PW w) A (call (.ref f) args) Q E s := by
  have Np : News h₀ L s.heap pre := fun p hp => N p (hm₀ p hp)
  obtain ⟨FG, BG, st, _⟩ := groundX (R := fun _ _ => True) B F Np hA hf hk
  refine up hh hA hd hu (S _ _ _ _ _ _ _ ⟨rfl, BG.stays, BG.frames⟩ (X.keeps st) (T.keeps st) (fun b o e => of_hideAll _ e) (Nat.le_of_eq (hideAll_size _ _))
    (fun p hp => ⟨(Np p hp).1, hideAll_none _ (List.mem_map_of_mem hp)⟩) fun r h' tk' {post} hst hpost hP hkept => ?_)
  obtain ⟨oL, es, ep, hL, hLd, hLk, hLf⟩ := FG.ns
  have hrest : ∀ p ∈ rest, (∃ q ∈ pre, q.2.cls = TUP ∧ q.1 = p.1 ∧ q.2 = p.2) ∨ (hideAll s.heap (pre.map (·.1))).get? p.1 = some p.2 := fun p hp => by
    by_cases hm : p.1 ∈ pre.map (·.1)
    · obtain ⟨q, hq, e⟩ := List.mem_map.mp hm
      have a := (Np q hq).1
      rw [e, (N p (hs₀ p hp)).1] at a
      have a := Option.some.inj a
      rcases off p hp q hq with h | h | h
      · exact .inl ⟨q, hq, h, e, a.symm⟩
      · exact absurd a h
      · exact absurd e.symm h
    · exact .inr (hideAll_get _ (N p (hs₀ p hp)).1 hm)
  have hrest' : ∀ p ∈ rest, h'.get? p.1 = some p.2 := fun p hp => by
    rcases hrest p hp with ⟨q, hq, h1, h2, h3⟩ | h
    · rw [← h2, ← h3]; exact hkept q hq h1
    · exact hst _ _ h
  refine ret r h' tk' post ⟨⟨oL, es, ep, hst L oL hL, hLd, hLk, hLf⟩, fun b o e => hst b o (FG.keep b o e), FG.above⟩ (fun p hp => ?_) hP fun p hp q hq hc e => ?_
  · rcases List.mem_append.mp hp with hp | hp
    · refine ⟨(hpost p hp).1, fun q => ?_, ?_⟩
      · have := (hpost p hp).2
        rw [q, hL] at this; cases this
      · cases q : h₀.get? p.1 with
        | none => rfl
        | some o => have := (hpost p hp).2; rw [st _ _ q] at this; cases this
    · exact ⟨hrest' p hp, (N p (hs₀ p hp)).2⟩
  · rcases hrest p hp with ⟨q', hq', h1, h2, h3⟩ | h
    · have a := hkept q' hq' h1
      rw [h2, e, (hpost q hq).1] at a
      exact hc (Option.some.inj a ▸ h1)
    · have := (hpost q hq).2
      rw [← e, h] at this; cases this

/-- what is found at a place, as law sees it -/
def FoundV (S : Str) (b : Int) (tb : Tok) (lf1 lf2 : Leaf) (r : Value) (op : Led) : Prop :=
  (startR S lf1 lf2 b = none ∧ r = .none) ∨ ∃ m e fa t x, startR S lf1 lf2 b = some (m, e) ∧ b ≤ m ∧ m ≤ e ∧ e ≤ S.length ∧ r = .ref fa ∧ (fa, tup [.int b tb, .int e t, x]) ∈ op
abbrev lawPs (S : Str) (ts : Tok) (pa da : Addr) : List (Str × Value) := [(Str.ofString "subject", .str S ts), (Str.ofString "pieces", .ref pa), (Str.ofString "deeds", .ref da)]
abbrev lawLd (L bx la sa pa da : Addr) (oB oS oF oP : Obj) (c : Int) (tc : Tok) (vs : List Value) (k j : Nat) (svs : List Value) (ks : Nat) (pvs : List Value) (kp : Nat) (dvs : List Value) (kd : Nat) (ps : Array Value) (op : Led) : Led :=
  (474, tabObj ps) :: (L + 1 + 1 + 1 + 1, oP) :: (L + 1 + 1 + 1, oF) :: (L + 1 + 1, oS) :: (L + 1, oB) :: (bx, listOf [Value.ref la, .int c tc].toArray k) :: (la, listOf vs.toArray j) :: (sa, listOf svs.toArray ks) :: (pa, listOf pvs.toArray kp) :: (da, listOf dvs.toArray kd) :: op
theorem leafTup {o : Obj} {lf : Leaf} (h : LeafObj o lf) : ∃ vs, o = tup vs := by
  cases lf <;> first | exact ⟨_, h.choose_spec.choose_spec⟩ | exact ⟨_, h.choose_spec⟩
theorem nf_cell {o : Obj} {v : Option Value} (h : o.data = .cell v) : noFields o = true := by unfold noFields; rw [h]
theorem drop_some {g h : Heap} {L : Addr} {a1 a2 a3 a4 a5 a6 a7 a8 a9 a10 a11 a12 a13 a14 a15 : Addr × Obj} {r : Led} (N : News g L h (a1 :: a2 :: a3 :: a4 :: a5 :: a6 :: a7 :: a8 :: a9 :: a10 :: a11 :: a12 :: a13 :: a14 :: a15 :: r)) : News g L h (a1 :: a8 :: a9 :: a11 :: a12 :: a13 :: a14 :: a15 :: r) :=
  newsSub2 N (by k_extra "m sub")
theorem drop_none {g h : Heap} {L : Addr} {a1 a2 a3 a4 a5 a6 a7 a8 a9 a10 a11 a12 : Addr × Obj} {r : Led} (N : News g L h (a1 :: a2 :: a3 :: a4 :: a5 :: a6 :: a7 :: a8 :: a9 :: a10 :: a11 :: a12 :: r)) : News g L h (a5 :: a6 :: a8 :: a9 :: a10 :: a11 :: a12 :: r) :=
  newsSub2 N (by k_extra "m sub")
def okS (x : Str) : Prop := ∀ n ∈ cs x, n < 0x110000
theorem okS.strOk {x : Str} (h : okS x) : PyData.strOk x = true := by
  unfold PyData.strOk
  rw [← Array.all_toList, List.all_eq_true]
  intro n hn
  exact decide_eq_true (h n hn)
theorem okS.append {x y : Str} (h1 : okS x) (h2 : okS y) : okS (x ++ y) := fun n hn => by
  rw [cs_append] at hn
  exact (List.mem_append.mp hn).elim (h1 n) (h2 n)
theorem okS.mid {x : Str} {i j : Int} (h : okS x) (h0 : 0 ≤ i) (h1 : i ≤ j) (h2 : j ≤ x.length) : okS (Txt.slice x (some i) (some j)) := fun n hn => by
  rw [cs_slice h0 h1 h2] at hn
  exact h n (List.mem_of_mem_drop (List.mem_of_mem_take hn))
theorem okS.to {x : Str} {j : Int} (h : okS x) (h0 : 0 ≤ j) (h2 : j ≤ x.length) : okS (Txt.slice x none (some j)) := fun n hn => by
  rw [cs_slice_to h0 h2] at hn
  exact h n (List.mem_of_mem_take hn)
theorem okS.from {x : Str} {i : Int} (h : okS x) (h0 : 0 ≤ i) (h2 : i ≤ x.length) : okS (Txt.slice x (some i) none) := fun n hn => by
  rw [cs_slice_from h0 h2] at hn
  exact h n (List.mem_of_mem_drop hn)
section
variable {prog : Program} {w : World} {A : Around} {E : Value → Shared → Prop} {s : Shared} {h₀ : Heap} {L : Addr} {news : Led} {Q : Value → Shared → Prop}
theorem int_ne_of {a b : Int} {t u : Tok} (e : a = b) (h : Q (.bool false) s) : wpAny (model prog w) A (compareOp .NotEq (.int a t) (.int b u)) Q E s :=
  PyProof.Rows.ne_int (by rw [e, bne_self_eq_false]; exact h)
theorem tup3_ne_of {a b : Addr} {x1 x2 x3 y1 y2 y3 : Str} {t1 t2 t3 u1 u2 u3 : Tok} (N : News h₀ L s.heap news) (ma : (a, tup [.str x1 t1, .str x2 t2, .str x3 t3]) ∈ news) (mb : (b, tup [.str y1 u1, .str y2 u2, .str y3 u3]) ∈ news)
    (e1 : x1 = y1) (e2 : x2 = y2) (e3 : x3 = y3) (o1 : okS x1) (o2 : okS x2) (o3 : okS x3) (hu : A.units + 64 < cLine) (h : Q (.bool false) s) :
    wpAny (model prog w) A (compareOp .NotEq (.ref a) (.ref b)) Q E s := by
  subst e1; subst e2; subst e3
  have hsh : SeqAt.shaped (.tuple [.str x1, .str x2, .str x3]) = true := by
    simp [SeqAt.shaped, PyData.canLay0, PyData.canLayAll0, PyData.depth, PyData.depthAll, o1.strOk, o2.strOk, o3.strOk]
  refine ne_dataH (da := .tuple [.str x1, .str x2, .str x3]) (db := .tuple [.str x1, .str x2, .str x3]) (reads_tuple_at (N.get ma) rfl rfl (.cons (.str _ _) (.cons (.str _ _) (.cons (.str _ _) .nil)))) (reads_tuple_at (N.get mb) rfl rfl (.cons (.str _ _) (.cons (.str _ _) (.cons (.str _ _) .nil)))) hsh hsh hu ?_
  simpa [PyData.eqv, PyData.eqvAll] using h
end
theorem Trip.tupq {vs pl ts} (h : Trip vs pl ts) : ∀ q ∈ pl, noFields q.2 = true := by
  induction h with
  | nil => intro p hp; cases hp
  | cons _ ih => intro p hp; cases hp with
    | head => rfl
    | tail _ hp => exact ih p hp
theorem use_cut {w : World} {lo : List Str} {mean : ExcName → Option Value} {mg mb : Str → Option Value} {news rest mid op pl : Led} {pa : Addr} {pvs : List Value} {kp : Nat} {tsr : List (Int × Int × Int)} {b e : Int} {tb te : Tok}
    {A A₀ : Around} {base h₀ : Heap} {outer : List Env} {env : Env} {L : Addr} {m : Str → Option Value} {s : Shared} {Q E : Value → Shared → Prop}
    (B : Below A₀ base outer h₀) (F : Fr h₀ L s.heap m) (X : (KF w.params).In h₀) (T : Top topProg lo mean mg mb h₀) (N : News h₀ L s.heap news)
    (hA : A.frames = some (env :: outer)) (hf : env.frame = some L) (hk : env.scope.kind = .function) (hh : A.handled = none) (hd : A.depth ≤ 700) (hu : A.units ≤ 2500)
    (htr : Trip pvs pl tsr) (hpl : ∀ p ∈ pl, p ∈ op) (hop : OpT op) (hb : 0 ≤ b ∧ b < 1000) (he : 0 ≤ e ∧ e < 1000) (hx : pvs.length < 40) (hts : ∀ q ∈ tsr, 0 ≤ q.2.1 ∧ q.2.1 ≤ q.2.2 ∧ q.2.2 < 1000)
    (tk : TakeL [(pa, listOf pvs.toArray kp)] news rest) (sp : SplitT op rest mid) (hoff : Off mid [(pa, listOf pvs.toArray kp)])
    (ret : ∀ fa vs' pl' k' h' tk', Fr h₀ L h' m → News h₀ L h' ((fa, listOf vs'.toArray k') :: (pa, listOf pvs.toArray kp) :: (mid ++ (pl' ++ op))) → Trip vs' pl' (cutT 0 b e tsr) → OpT (pl' ++ op) → @Ne Nat fa pa → (∀ p ∈ mid, p.1 ≠ fa) → Q (.ref fa) { s with heap := h', toks := tk' }) :
    wpAny (model PW w) A (call (.ref 467) [.ref pa, .int b tb, .int e te]) Q E s := by
  have es := sp.eq
  refine use_specM (pre := (pa, listOf pvs.toArray kp) :: pl) (rest := rest) B F X T N hA hf hk hh hd hu (cut_spec htr hb he hx hts) (fun p hp => ?_) (fun p hp => tk.sub p hp) (fun p hp q hq => ?_) ?_
  · cases hp with
    | head => exact tk.mem _ (.head _)
    | tail _ hp => exact tk.sub _ (es ▸ List.mem_append_right _ (hpl p hp))
  · cases hq with
    | head =>
      rw [es] at hp
      rcases List.mem_append.mp hp with hp | hp
      · exact hoff p hp _ (.head _)
      · exact off_op (pre := [(pa, listOf pvs.toArray kp)]) hop (fun q hq => by rw [List.mem_singleton.mp hq]) p hp _ (.head _)
    | tail _ hq => exact .inl (Trip.tup htr q hq)
  · rintro r h' tk' post F' N' ⟨fa, vs', pl', k', rfl, ht', hne, rfl⟩ hO
    refine ret fa vs' pl' k' h' tk' F' (newsSub2 N' fun p hp => ?_) ht' (ht'.op.append hop) hne (fun p hp => hO p (es ▸ List.mem_append_left _ hp) _ (.head _) (fun e => nomatch Value.type.inj e))
    cases hp with
    | head => exact .head _
    | tail _ hp =>
      cases hp with
      | head => exact .tail _ (.head _)
      | tail _ hp =>
        rcases List.mem_append.mp hp with hp | hp
        · exact List.mem_append_right _ (es ▸ List.mem_append_left _ hp)
        · rcases List.mem_append.mp hp with hp | hp
          · exact .tail _ (.tail _ (List.mem_append_left _ (List.mem_append_left _ hp)))
          · exact List.mem_append_right _ (es ▸ List.mem_append_right _ hp)
theorem ne_of_ne {l : Led} {a d : Addr} {o : Obj} (h : ∀ p ∈ l, p.1 ≠ d) (hm : (a, o) ∈ l) : @Ne Nat a d := h _ hm
/-- what stands between two turns of law's main loop -/
inductive LawSt (L bx la sa da : Addr) (S0 : Str) (i : Nat) (m : Str → Option Value) (news : Led) : Prop
  | mk (S : Str) (ts : Tok) (c : Int) (tc : Tok) (vs : List Value) (xs : List Int) (k j : Nat) (svs : List Value) (srcs : List Str) (ks : Nat) (pa : Addr) (pvs : List Value) (pl : Led) (tsr : List (Int × Int × Int)) (kp : Nat) (dvs : List Value) (dl : Led) (ds : List Deed) (kd : Nat) (oB oS oF oP : Obj) (vF vP : Option Value) (ps : Array Value) (op : Led) (u : Str → Option Value)
    (hm : m = (fun y => ((lawPs S ts pa da).lookup y).or (u y))) (hn : news = lawLd L bx la sa pa da oB oS oF oP c tc vs k j svs ks pvs kp dvs kd ps op) (hop : OpT op) (hTA : TabA ps op)
    (d1 : oB.data = .cell (some (.ref bx))) (d2 : oS.data = .cell (some (.ref sa))) (d3 : oF.data = .cell vF) (d4 : oP.data = .cell vP) (hi : IntsAre vs xs) (hx : vs.length ≤ 60) (hc0 : 0 ≤ c) (hc1 : c ≤ 100 + 10 * (i : Int)) (hok : okS S) (hS : S.length ≤ 8 + 6 * i)
    (hsr : StrsAre svs srcs) (hsi : srcs.length ≤ 1 + i) (hs0 : srcs[0]? = some S0) (hsl : ∀ t ∈ srcs, t.length < 900) (htr : Trip pvs pl tsr) (hpl : ∀ p ∈ pl, p ∈ op) (hti : tsr.length ≤ 1 + 2 * i) (hgd : Good srcs tsr) (hsp : spell srcs tsr = cs S)
    (hqd : Quad dvs dl ds) (hdl : ∀ p ∈ dl, p ∈ op) (hdi : ds.length ≤ i) (hch : ChnR S0 ds.reverse S) (n7 : @Ne Nat pa bx) (n8 : @Ne Nat pa la) (n9 : @Ne Nat pa sa) (n10 : @Ne Nat pa da)
theorem off_itr {g h : Heap} {L I : Addr} {x1 x2 : Int} {news : Led} (N : News g L h ((I, itR x1 x2) :: news)) (hn : ∀ p ∈ news, p.2 ≠ itR x1 x2) : ∀ p ∈ news, p.1 ≠ I := fun p hp e => by
  have h1 := (N p (.tail _ hp)).1
  have h2 := (N _ (.head _)).1
  rw [e, h2] at h1
  exact hn p hp (Option.some.inj h1).symm
theorem okO_itr {o : Obj} {x1 x2 : Int} (h : OkO o) : o ≠ itR x1 x2 := by
  rintro rfl
  rcases h with ⟨vs, e⟩ | ⟨vs, t, e, q⟩
  · have := congrArg Obj.cls e
    exact absurd (Value.type.inj this) (by decide)
  · have e2 : (Data.fields #[rawInt x1, rawInt x2, rawInt 1]) = .fields vs := e
    cases e2
    cases q
theorem law_off {L bx la sa pa da : Addr} {oB oS oF oP : Obj} {c : Int} {tc : Tok} {vs : List Value} {k j : Nat} {svs : List Value} {ks : Nat} {pvs : List Value} {kp : Nat} {dvs : List Value} {kd : Nat} {ps : Array Value} {op : Led} {vB vS vF vP : Option Value} {x1 x2 : Int}
    (d1 : oB.data = .cell vB) (d2 : oS.data = .cell vS) (d3 : oF.data = .cell vF) (d4 : oP.data = .cell vP) (hop : OpT op) : ∀ p ∈ lawLd L bx la sa pa da oB oS oF oP c tc vs k j svs ks pvs kp dvs kd ps op, p.2 ≠ itR x1 x2 := by
  have hc : ∀ {o : Obj} {v : Option Value}, o.data = .cell v → o ≠ itR x1 x2 := fun h e => by rw [e] at h; cases h
  have hl : ∀ {ws : List Value} {n : Nat}, listOf ws.toArray n ≠ itR x1 x2 := fun e => absurd (Value.type.inj (congrArg Obj.cls e)) (by decide)
  refine allCons (fun e => (by have := congrArg Obj.cls e; cases this)) ?_
  refine allCons (hc d4) (allCons (hc d3) (allCons (hc d2) (allCons (hc d1) ?_)))
  refine allCons hl (allCons hl (allCons hl (allCons hl (allCons hl ?_))))
  exact fun p hp => okO_itr (hop p hp)
end

section
theorem regMBx : (fun (_ : OpenLaw) (_ : Params → Frag) => True) PySem.Challenge.rw_sj0197_01 KF := by
  k_with_none
  k_with "m enter" => (
    (case k1 => exact B); (case k2 => exact X); (case k3 => exact T); (case k4 => exact st); (case k5 => exact sz); (case k6 => exact N)
    (case k7 => k_dflt k_is)
    (case hb => (conv => lhs; whnf))
    (case hs => (conv => lhs; whnf))
    (case k8 => k_dflt k_is)
    (case k9 => decide)
    (case k10 => exact BindsTo.of_eq rfl)
    (case k11 => exact locs rfl)
    (case c1 => exact rfl); (case c2 => exact rfl); (case c3 => exact rfl); (case c4 => decide)
    clear st sz N
    intro L h F N'
    (try dsimp only)
    (try k_fold))
  k_with "m end" => ((try k_unfold); (try dsimp only); refine' hret _ _ _ ?e1 ?e2 ?e3 ?e4; (case e1 => exact Fr.keep (by k_asm)); (case e4 => k_extra "m kept"))
  k_with "m kept" => (first | exact kept_nil | (refine' kept_tup ?ka ?kb ?kc; (case ka => k_asm); (case kb => k_mem); (case kc => k_extra "m kept")) | (refine' kept_not ?kd ?ke ?kf; (case kd => k_extra "m cls"); (case ke => decide); (case kf => k_extra "m kept")))
  k_with "m sub" => (first | exact subNil | exact subRefl | (refine' subStep ?su; (case su => k_extra "m sub")) | (refine' subUpS ?sk ?su; (case sk => ((fail_if_success (refine skipOf ?_; k_mem)); exact trivial)); (case su => k_extra "m sub")) | (refine' subCons ?sa ?sb; (case sa => k_mem); (case sb => k_extra "m sub")))
  k_with "m same" => (
    intro z h2 h3
    simp only [List.forall_mem_cons, List.not_mem_nil, false_implies, implies_true, and_true, ne_eq] at h2
    simp [kstB, h2])
  k_with "m same2" => (
    intro z h2 h3
    dsimp only [isPs, psOf] at h2
    simp only [List.forall_mem_cons, List.not_mem_nil, false_implies, implies_true, and_true, ne_eq] at h2
    simp only [List.contains_cons, List.contains_nil, Bool.or_false, Bool.or_eq_false_iff, beq_eq_false_iff_ne, ne_eq] at h3
    simp [kstB, h2, h3])
  k_with "m same3" => (
    intro z h2 h3
    simp only [List.forall_mem_cons, List.not_mem_nil, false_implies, implies_true, and_true, ne_eq] at h2
    simp only [List.contains_cons, List.contains_nil, Bool.or_false, beq_eq_false_iff_ne, ne_eq] at h3
    simp [kstB, h2, h3])
  k_with "m same4" => (
    intro z h2 h3
    simp only [List.forall_mem_cons, List.not_mem_nil, false_implies, implies_true, and_true, ne_eq] at h2
    simp only [List.contains_cons, List.contains_nil, Bool.or_false, Bool.or_eq_false_iff, beq_eq_false_iff_ne, ne_eq] at h3
    simp [kstB, h2, h3])
  k_with "m led" => (dsimp only [isLed, osLed, fxL, vD, hD, List.cons_append, List.nil_append]; k_extra "m sub")
  k_with "m ps" => (dsimp only [isPs, psOf]; kst_all)
  k_with "m all" => exact newsOut (by k_asm)
  k_with "m outA" => exact newsSub (by k_asm) (subApp (by k_extra "m sub"))
  k_with "m out" => exact newsSub (by k_asm) (by k_extra "m sub")
  k_with "m t1" => (first | with_reducible exact Take1.head | (refine' Take1.tail ?mt; (case mt => k_extra "m t1")))
  k_with "m take" => (first | exact TakeL.nil | (refine' TakeL.cons ?ma ?mb; (case ma => k_extra "m t1"); (case mb => k_extra "m take")))
  k_with "m cls" => (first | assumption | exact dict_cls (by assumption) | (conv => lhs; whnf))
  k_with "m nocell" => exact rfl
  k_with "m ne" => (first | assumption | (refine Ne.symm ?_; assumption) | (refine' ne_cls ?na ?nb ?nc ?nd ?nf ?ng; (case na => k_asm); (case nb => k_mem); (case nc => k_mem); (case nd => k_extra "m cls"); (case nf => k_extra "m cls"); (case ng => decide)) | (refine' ne_cell ?na ?nb ?nc ?nd ?nf; (case na => k_asm); (case nb => k_mem); (case nc => k_mem); (case nd => assumption); (case nf => k_extra "m nocell")) | (refine Ne.symm ?_; refine' ne_cell ?na ?nb ?nc ?nd ?nf; (case na => k_asm); (case nb => k_mem); (case nc => k_mem); (case nd => assumption); (case nf => k_extra "m nocell")) | (refine neN ?_; (try dsimp only); omega))
  k_with "m ne1" => (first | exact ne1_nil | (refine' ne1_tup ?nt ?nu; (case nt => first | exact rfl | assumption); (case nu => k_extra "m ne1")) | (refine' ne1_cls ?n1 ?n2 ?n3 ?n4; (case n1 => k_extra "m cls"); (case n2 => k_extra "m cls"); (case n3 => decide); (case n4 => k_extra "m ne1")) | (refine' ne1_cell ?n1 ?n2 ?n4; (case n1 => assumption); (case n2 => k_extra "m nocell"); (case n4 => k_extra "m ne1")) | (refine' ne1_cons ?nv ?nw; (case nv => k_extra "m ne"); (case nw => k_extra "m ne1")))
  k_with "m off" => (first | exact off_nil | k_extra "m offop" | (refine' off_consT ?oc ?ob; (case oc => first | exact rfl | assumption); (case ob => k_extra "m off")) | (refine' off_cons ?oa ?ob; (case oa => k_extra "m ne1"); (case ob => k_extra "m off")))
  k_with "m use" => (
    (case hA => exact rfl); (case hf => exact rfl); (case hk => exact rfl); (case hh => exact rfl)
    (case B => k_asm); (case F => k_asm); (case X => k_asm); (case T => k_asm); (case N => k_asm)
    (case hd => exact Nat.le_of_ble_eq_true rfl); (case hu => exact Nat.le_of_ble_eq_true rfl)
    (case tk => k_extra "m take")
    (case off => k_extra "m off"))
  k_with "call ref" => (k_here; k_dflt (k_extra "m call"))
  k_with "compareOp NotIn str ref" => (k_here; k_dflt (refine' notin_tuple_strs ?k1 ?k2 ?_; (case k1 => exact tupK (by k_in) (by k_is)); (case k2 => kde_strs); k_whole))
  k_with "compareOp In str ref" => (k_here; k_dflt (refine' in_tuple_strs ?k1 ?k2 ?_; (case k1 => exact tupK (by k_in) (by k_is)); (case k2 => kde_strs); k_whole))
  k_with "setItem ref str" => (k_here; k_dflt (refine' setItem_K PyProof.V.same_str (strKind_is _ _ _ _) ?v ?F ?N ?U ?d ?f ?_ ?z; (case F => k_asm); (case N => k_asm); (case U => k_updF); (case d => k_asm); (case f => k_asm); (case z => exact line_of_lenLe (n := 5) (by assumption) (by decide)); (case v => k_flat)); intro h' o' F' N' hd' hf'; (try dsimp only at N'); (try k_sweep))
  k_with "compareOp Eq ref str" => (k_here; k_dflt (refine' eq_tup_str ?k1 ?k2 ?k3 ?_; (case k1 => k_asm); (case k2 => k_mem); (case k3 => exact Nat.le_of_ble_eq_true rfl); k_whole))
  k_with "CompSrc" => (k_here; k_dflt (k_extra "m src"))
  k_with "CompEnd" => (k_here; k_extra "m compend")
  k_with "call builtin:sorted" => (k_here; k_dflt (k_extra "m sorted"))
  k_with "compareOp NotEq str str" => (k_here; k_extra "m neq")
  k_with "compareOp Eq str str" => (k_here; k_extra "m eqs")
  k_with "call builtin:str.join" => (k_here; k_dflt (k_extra "m join"))
  k_with "eval Lambda" => (k_here; k_dflt (k_extra "m lam"))
  k_with "compareOp NotEq int int" => (k_here; k_dflt (k_extra "m neqi"))
  k_with "compareOp NotEq ref ref" => (k_here; k_dflt (k_extra "m neqt"))
  k_with "call builtin:len" => (k_here; k_dflt (k_extra "m len"))
  k_with "binaryOp Add ref ref" => (k_here; k_dflt (k_extra "m addl"))
  k_with "eval ListComp" => (k_here; k_extra "m comp")
  k_with "subscriptTail" => (k_here; k_dflt (k_extra "m item"))
  k_with "execs cons" => (k_here; k_extra "m stmt")
  trivial
open PyProof.Rows.LCg PyProof.Rows.LCp in
/-- what stands between two turns of a comprehension -/
inductive C3St (h₀ : Heap) (L : Addr) (s₁ : Shared) (m : Str → Option Value) (I ax : Addr) (its : List Value) (news : Led) (Inv : Nat → List Value → Prop) (k : Nat) (s' : Shared) : Prop
  | mk (h' : Heap) (tk i : Nat) (ys : List Value) (m' : Str → Option Value) (e : s' = { s₁ with heap := h', toks := tk }) (hi : i ≤ its.length) (hk : k = its.length + 1 - i) (hy : ys.length = i) (hst : h'.IsListIter I ax i ∧ h'.IsList ax its.toArray) (F : Fr h₀ L h' m) (hn : h'.Ns (I + 1 + 1) m') (N : News h₀ L h' ((I + 1, lst ys) :: news)) (hv : Inv i ys)
open PyProof.Rows.LCg PyProof.Rows.LCp in
/-- a comprehension with three names over a list of triples, whose element leaves the ledger as it is -/
theorem comp3 {prog : Program} {w : World} {A : Around} {E : Value → Shared → Prop} {s : Shared} {h₀ : Heap} {L : Addr} {m : Str → Option Value} {env : Env} {elt iter : PySem.Expr} {x y z : Str} {px py pz tp : Pos} {tk0 : Nat} {scope : Scope} {cl : List (Str × Addr)} {pos : Pos} {Q : Value → Shared → Prop} (Inv : Nat → List Value → Prop) (_F₀ : Fr h₀ L s.heap m)
    (hclos : closureFor scope env = pure cl) (hcell : ∀ y ∈ scope.names, y.2 ≠ .cell) (hkind : scope.kind = .function)
    (hnames : ∀ y ∈ scope.names, y.2 = .local → scope.names.lookup y.1 = some .local) (hx : scope.names.lookup x = some .local) (hy : scope.names.lookup y = some .local) (hz : scope.names.lookup z = some .local) (hxy : x ≠ y) (hxz : x ≠ z) (hyz : y ≠ z) (hh : A.handled = none)
    (h : wpAny (model prog w) A (eval iter env) (fun xv s₁ => ∃ (ax : Addr) (its : List Value) (n : Nat) (news : Led), xv = .ref ax ∧ Fr h₀ L s₁.heap m ∧ News h₀ L s₁.heap news ∧ (ax, listOf its.toArray n) ∈ news ∧ its.length ≤ 1000 ∧ Inv 0 [] ∧
      (∀ i v, its[i]? = some v → ∃ (t : Addr) (v1 v2 v3 : Value), v = .ref t ∧ (t, tup [v1, v2, v3]) ∈ news ∧
        ∀ ys I oI C oC D m₂ h tk (E' : Value → Shared → Prop), Inv i ys → NsObj oC m₂ → m₂ x = some v1 → m₂ y = some v2 → m₂ z = some v3 → Fr h₀ L h m → News h₀ L h ((I, oI) :: (C, oC) :: (D, lst ys) :: news) →
          wpAny (model prog w) A (eval elt (compEnvC scope cl C env)) (fun u s' => ∃ h' tk', s' = { s₁ with heap := h', toks := tk' } ∧ Fr h₀ L h' m ∧ News h₀ L h' ((I, oI) :: (C, oC) :: (D, lst ys) :: news) ∧ Inv (i + 1) (ys ++ [u])) E' { s₁ with heap := h, toks := tk }) ∧
      ∀ ys D h tk, Inv its.length ys → Fr h₀ L h m → News h₀ L h ((D, lst ys) :: news) → Q (.ref D) { s₁ with heap := h, toks := tk }) E s)
    (hs : ∀ x, foldedSetIterable iter env x = pure x := by intro _; rfl) :
    wpAny (model prog w) A (eval (.ListComp elt [⟨.Tuple [.Name x px, .Name y py, .Name z pz] tk0 tp, iter, [], 0⟩] scope pos) env) Q E s := by
  rw [eval_ListComp]
  refine wpAny_comprehension_free (use := none) rfl hs hclos hkind hnames (wpAny_mono h (fun xv s₁ h₁ => ?_) fun _ _ e => e)
  obtain ⟨ax, its, n, news, rfl, F, N, hax, hsz, i0, hel, fin⟩ := h₁
  have hl : s₁.heap.IsList ax its.toArray := ⟨_, (N _ hax).1, rfl, n, rfl⟩
  have hlt : ax < s₁.heap.objs.size := Heap.lt_size (N _ hax).1
  refine wpAny_pyIter_list hl ?_
  generalize hI : s₁.heap.objs.size = I
  generalize hH : s₁.heap.push { cls := .type "list_iterator", data := .fields #[.ref ax, .int 0 0] } = H
  have szH : H.objs.size = I + 1 := by rw [← hH, Heap.size_push, hI]
  have upH : ∀ b o, s₁.heap.get? b = some o → H.get? b = some o := fun b o e => by rw [← hH]; exact Heap.get?_push_of_some _ e
  have itH : H.IsListIter I ax 0 := by rw [← hH, ← hI]; exact ⟨_, Heap.get?_push_size _ rfl, rfl, rfl⟩
  have W := Walks.list (prog := prog) (w := w) hh I ax (Nat.ne_of_lt (hI ▸ hlt)) its.toArray
  have hn : its.toArray.size = its.length := by simp
  rw [hn] at W
  have I0 : h₀.get? I = none := by rw [← hI]; exact next_is_new F
  have LI : L ≠ I := hI ▸ Nat.ne_of_lt F.ns.lt
  have below : ∀ p ∈ news, p.1 < I := fun p hp => hI ▸ Heap.lt_size (N p hp).1
  refine wpAny_newObj_type (wpAny_newFunctionEnv hcell (by intro y hy; simp at hy) (fun h₁ hns₁ hsb₁ => ?_) hkind)
  dsimp only at hns₁ hsb₁ ⊢
  generalize hG : H.push { cls := .type "list", dict := none, data := .seq ([] : List Value).toArray } = G at hns₁ hsb₁ ⊢
  have szG : G.objs.size = I + 1 + 1 := by rw [← hG, Heap.size_push, szH]
  rw [szH]
  rw [szG] at hns₁ hsb₁ ⊢
  have ltI : ∀ b, b < I → (b ≠ I ∧ b ≠ I + 1 ∧ b ≠ I + 1 + 1) := fun b hb => ⟨Nat.ne_of_lt hb, Nat.ne_of_lt (Nat.lt_succ_of_lt hb), Nat.ne_of_lt (Nat.lt_succ_of_lt (Nat.lt_succ_of_lt hb))⟩
  have nDC : (I + 1 : Nat) ≠ I + 1 + 1 := Nat.ne_of_lt (Nat.lt_succ_self _)
  have nIC : (I : Nat) ≠ I + 1 + 1 := Nat.ne_of_lt (Nat.lt_succ_of_lt (Nat.lt_succ_self _))
  have nID : (I : Nat) ≠ I + 1 := Nat.ne_of_lt (Nat.lt_succ_self _)
  have old : ∀ b o, b ≠ I + 1 + 1 → H.get? b = some o → h₁.get? b = some o := fun b o hb e => hsb₁.extBut b o hb (Heap.get?_push_of_some _ (hG ▸ Heap.get?_push_of_some _ e))
  have accD : h₁.get? (I + 1) = some (lst []) := hsb₁.extBut _ _ nDC (Heap.get?_push_of_some _ (hG ▸ (szH ▸ Heap.get?_push_size _ rfl)))
  have fresh₀ : ∀ a, I ≤ a → h₀.get? a = none := fun a ha => by
    cases e : h₀.get? a with
    | none => rfl
    | some o' => exact absurd (Nat.lt_of_lt_of_le (Heap.lt_size (F.keep a o' e)) (hI ▸ Nat.le_refl _)) (Nat.not_lt.mpr ha)
  have D0 : h₀.get? (I + 1) = none := fresh₀ _ (Nat.le_succ _)
  have C0 : h₀.get? (I + 1 + 1) = none := fresh₀ _ (Nat.le_trans (Nat.le_succ _) (Nat.le_succ _))
  have Llt : L < I := hI ▸ F.ns.lt
  have LD := (ltI L Llt).2.1
  have LC := (ltI L Llt).2.2
  have axI : ax < I := hI ▸ hlt
  have s₁h : ∀ b o, s₁.heap.get? b = some o → h₁.get? b = some o := fun b o e => old b o ((ltI b (hI ▸ Heap.lt_size e)).2.2) (upH b o e)
  refine codeAny_compStart_list ?lp9 (W.self 0 _ _ _ ⟨itH.at fun o e => old _ o nIC e, hl.at fun o e => s₁h _ o e⟩ ?lp9)
  refine codeAny_compLoop_pair (env := compEnvC scope cl (I + 1 + 1) env) (C3St h₀ L s₁ m I ax its news Inv)
      ?_ (its.length + 1) ⟨h₁, _, 0, [], _, rfl, Nat.zero_le _, rfl, rfl, ⟨itH.at fun o e => old _ o nIC e, hl.at fun o e => s₁h _ o e⟩, F.keeps s₁h, hns₁, ?_, i0⟩
  · rintro k s' ⟨h', tk, i, ys, m', rfl, hi, rfl, hyl, hst', F', hn', N', hiv⟩
    by_cases hlt2 : i < its.length
    · refine W.item i _ _ _ hlt2 hst' fun v h₂ tk₂ hPv hst₂ hk₂ => ?_
      obtain ⟨t, v1, v2, v3, rfl, hmt, go⟩ := hel i v (by simpa using hPv)
      have N₂ : News h₀ L h₂ ((I + 1, lst ys) :: news) := fun p hp => ⟨hk₂ _ _ (fun q => by
        have q := List.mem_singleton.mp q
        cases hp with
        | head => exact nID q.symm
        | tail _ hp => exact (ltI _ (below p hp)).1 q) (N' p hp).1, (N' p hp).2⟩
      have F₂ : Fr h₀ L h₂ m := ⟨F'.ns.at' fun o e => hk₂ _ o (fun q => LI (List.mem_singleton.mp q)) e, fun b o e => hk₂ b o (fun q => by rw [List.mem_singleton.mp q, I0] at e; cases e) (F'.keep b o e), F'.above⟩
      have C₂ : h₂.Ns (I + 1 + 1) m' := hn'.at' fun o e => hk₂ _ o (fun q => nIC (List.mem_singleton.mp q).symm) e
      have ht : IsTup h₂ t #[v1, v2, v3] := ⟨_, (N₂ _ (.tail _ hmt)).1, rfl, _, rfl⟩
      refine wpAny_letOwnedTupleGo_listiter hst₂.1 ?_
      refine assign_Tuple_tuple hh ht rfl rfl fun h₅ he => ?_
      have he' : ∀ b o, h₂.get? b = some o → h₅.get? b = some o := fun b o e => he b o (Nat.ne_of_lt (Heap.lt_size e)) e
      refine assignInOrder_cons (wpAny_assign_Name (wpAny_storeName_local (lookup_relabel_local hx) (C₂.at' fun o e => he' _ o e) (fun h₆ hn₆ hs₆ => ?_) (by simp [compEnvC, relabel, hkind])))
      refine assignInOrder_cons (wpAny_assign_Name (wpAny_storeName_local (lookup_relabel_local hy) hn₆ (fun h₇ hn₇ hs₇ => ?_) (by simp [compEnvC, relabel, hkind])))
      refine assignInOrder_cons (wpAny_assign_Name (wpAny_storeName_local (lookup_relabel_local hz) hn₇ (fun h₃ hn₃ hs₃ => ?_) (by simp [compEnvC, relabel, hkind])))
      refine assignInOrder_nil ?_
      have old3 : ∀ b o, b ≠ I + 1 + 1 → h₂.get? b = some o → h₃.get? b = some o := fun b o hb e => hs₃.extBut b o hb (hs₇.extBut b o hb (hs₆.extBut b o hb (he' b o e)))
      obtain ⟨oI, heI, rI⟩ := hst₂.1
      obtain ⟨oC, heC, hoC⟩ := ns_obj hn₃
      have F₃ : Fr h₀ L h₃ m := ⟨F₂.ns.at' fun o e => old3 _ o LC e, fun b o e => old3 b o (fun q => by rw [q, C0] at e; cases e) (F₂.keep b o e), F₂.above⟩
      have N₃ : News h₀ L h₃ ((I, oI) :: (I + 1 + 1, oC) :: (I + 1, lst ys) :: news) := fun p hp => by
        cases hp with
        | head => exact ⟨old3 _ _ nIC heI, Ne.symm LI, I0⟩
        | tail _ hp =>
          cases hp with
          | head => exact ⟨heC, Ne.symm LC, C0⟩
          | tail _ hp =>
            refine ⟨old3 _ _ ?_ (N₂ p hp).1, (N₂ p hp).2⟩
            cases hp with
            | head => exact nDC
            | tail _ hp => exact (ltI _ (below p hp)).2.2
      refine wpAny_mono (go ys I oI (I + 1 + 1) oC (I + 1) _ h₃ _ _ hiv hoC (by simp [hxy, hxz]) (by simp [hyz]) (by simp) F₃ N₃) (fun u s₄ h₄ => ?_) fun _ _ e => e
      obtain ⟨h₄, tk₄, rfl, F₄, N₄, hiv'⟩ := h₄
      have zI := (N₄ (I, oI) (.head _)).1
      have zC := (N₄ (I + 1 + 1, oC) (.tail _ (.head _))).1
      have zD := (N₄ (I + 1, lst ys) (.tail _ (.tail _ (.head _)))).1
      have zx : h₄.get? ax = some (listOf its.toArray n) := (N₄ _ (.tail _ (.tail _ (.tail _ hax)))).1
      refine append_at (hsz := by show ys.toArray.size ≤ sizeLine; rw [List.size_toArray, PySem.sizeLine_eq]; omega) zD fun h₅ hs₅ hD₅ => ?_
      refine ⟨its.length + 1 - (i + 1), by omega, h₅, tk₄, i + 1, ys ++ [u], _, rfl, hlt2, rfl, by rw [List.length_append, List.length_singleton, hyl], ⟨⟨oI, hs₅.extBut _ _ nID zI, rI⟩, ⟨_, hs₅.extBut _ _ (ltI ax axI).2.1 zx, rfl, n, rfl⟩⟩,
        ⟨F₄.ns.at' fun o e => hs₅.extBut _ o LD e, fun b o e => hs₅.extBut b o (fun q => by rw [q, D0] at e; cases e) (F₄.keep b o e), F₄.above⟩, (hoC.ns zC).sameBut hs₅ (Ne.symm nDC), fun p hp => ?_, hiv'⟩
      cases hp with
      | head => exact ⟨hD₅.trans (congrArg some (lst_snoc ys u)), Ne.symm LD, D0⟩
      | tail _ hp => exact ⟨hs₅.extBut _ _ (ltI _ (below p hp)).2.1 (N₄ p (.tail _ (.tail _ (.tail _ hp)))).1, (N p hp).2⟩
    · obtain rfl : i = its.length := Nat.le_antisymm hi (Nat.not_lt.mp hlt2)
      refine W.done _ _ _ hst' fun h₂ tk₂ hk₂ => ?_
      refine ⟨m', hn'.at' fun o e => hk₂ _ o (fun q => nIC (List.mem_singleton.mp q).symm) e, fun h'' hs'' => fin ys _ h'' tk₂ hiv ?_ fun p hp => ?_⟩
      · exact ⟨(F'.ns.at' fun o e => hk₂ _ o (fun q => LI (List.mem_singleton.mp q)) e).at' fun o e => hs''.extBut _ o LC e, fun b o e => hs''.extBut b o (fun q => by have q' : b = I + 1 + 1 := q; rw [q', C0] at e; cases e) (hk₂ b o (fun q => by rw [List.mem_singleton.mp q, I0] at e; cases e) (F'.keep b o e)), F'.above⟩
      · have a := hk₂ _ _ (fun q => by
          have q := List.mem_singleton.mp q
          cases hp with
          | head => exact nID q.symm
          | tail _ hp => exact (ltI _ (below p hp)).1 q) (N' p hp).1
        refine ⟨hs''.extBut _ _ ?_ a, (N' p hp).2⟩
        cases hp with
        | head => exact nDC
        | tail _ hp => exact (ltI _ (below p hp)).2.2
  · intro p hp
    cases hp with
    | head => exact ⟨accD, Ne.symm LD, D0⟩
    | tail _ hp => exact ⟨s₁h _ _ (N p hp).1, (N p hp).2⟩
theorem strs_snoc {v : Str} {t : Tok} : ∀ {vs : List Value} {ns : List Str}, StrsAre vs ns → StrsAre (vs ++ [.str v t]) (ns ++ [v])
  | _, _, .nil => .cons v t .nil
  | _, _, .cons a b h => .cons a b (strs_snoc h)
theorem cs_join : ∀ (ss : List Str), cs (Txt.join (Str.ofString "") ss) = (ss.map cs).flatten := by
  intro ss
  rw [show Txt.join (Str.ofString "") ss = Str.join (Str.ofString "") ss from StrLaws.glued_eq_join _ ss]
  induction ss with
  | nil => rfl
  | cons x r ih =>
    cases r with
    | nil => simp [Str.join]
    | cons y r =>
      have e : Str.join (Str.ofString "") (x :: y :: r) = x ++ Str.ofString "" ++ Str.join (Str.ofString "") (y :: r) := rfl
      rw [e, cs_append, cs_append, ih]
      simp [cs]
      rfl
theorem sum_le {B : Nat} : ∀ {ss : List Str}, (∀ t ∈ ss, t.length ≤ B) → (ss.map (·.length)).sum ≤ ss.length * B
  | [], _ => by simp
  | t :: r, h => by
    have h1 := h t (.head _)
    have h2 := sum_le fun t' ht => h t' (.tail _ ht)
    simp only [List.map_cons, List.sum_cons, List.length_cons, Nat.add_mul]
    omega
theorem join_len {ss : List Str} (h : ∀ t ∈ ss, t.length = 1) : (Txt.join (Str.ofString "") ss).length = ss.length := by
  rw [← cs_len, cs_join]
  induction ss with
  | nil => rfl
  | cons t r ih =>
    have h1 := h t (.head _)
    have h2 := ih fun t' ht => h t' (.tail _ ht)
    simp only [List.map_cons, List.flatten_cons, List.length_append, List.length_cons, cs_len]
    omega
theorem StrsAre.length_eq {vs : List Value} {ss : List Str} (h : StrsAre vs ss) : vs.length = ss.length := by
  induction h with
  | nil => rfl
  | cons _ _ _ ih => simp [ih]
end

section
theorem regMBw : (fun (_ : OpenLaw) (_ : Params → Frag) => True) PySem.Challenge.rw_sj0197_01 KF := by
  k_with_none
  k_with "m enter" => (
    (case k1 => exact B); (case k2 => exact X); (case k3 => exact T); (case k4 => exact st); (case k5 => exact sz); (case k6 => exact N)
    (case k7 => k_dflt k_is)
    (case hb => (conv => lhs; whnf))
    (case hs => (conv => lhs; whnf))
    (case k8 => k_dflt k_is)
    (case k9 => decide)
    (case k10 => exact BindsTo.of_eq rfl)
    (case k11 => exact locs rfl)
    (case c1 => exact rfl); (case c2 => exact rfl); (case c3 => exact rfl); (case c4 => decide)
    clear st sz N
    intro L h F N'
    (try dsimp only)
    (try k_fold))
  k_with "m end" => ((try k_unfold); (try dsimp only); refine' hret _ _ _ ?e1 ?e2 ?e3 ?e4; (case e1 => exact Fr.keep (by k_asm)); (case e4 => k_extra "m kept"))
  k_with "m kept" => (first | exact kept_nil | (refine' kept_tup ?ka ?kb ?kc; (case ka => k_asm); (case kb => k_mem); (case kc => k_extra "m kept")) | (refine' kept_not ?kd ?ke ?kf; (case kd => k_extra "m cls"); (case ke => decide); (case kf => k_extra "m kept")))
  k_with "m sub" => (first | exact subNil | exact subRefl | (refine' subStep ?su; (case su => k_extra "m sub")) | (refine' subUpS ?sk ?su; (case sk => ((fail_if_success (refine skipOf ?_; k_mem)); exact trivial)); (case su => k_extra "m sub")) | (refine' subCons ?sa ?sb; (case sa => k_mem); (case sb => k_extra "m sub")))
  k_with "m same" => (
    intro z h2 h3
    simp only [List.forall_mem_cons, List.not_mem_nil, false_implies, implies_true, and_true, ne_eq] at h2
    simp [kstB, h2])
  k_with "m same2" => (
    intro z h2 h3
    dsimp only [isPs, psOf] at h2
    simp only [List.forall_mem_cons, List.not_mem_nil, false_implies, implies_true, and_true, ne_eq] at h2
    simp only [List.contains_cons, List.contains_nil, Bool.or_false, Bool.or_eq_false_iff, beq_eq_false_iff_ne, ne_eq] at h3
    simp [kstB, h2, h3])
  k_with "m same3" => (
    intro z h2 h3
    simp only [List.forall_mem_cons, List.not_mem_nil, false_implies, implies_true, and_true, ne_eq] at h2
    simp only [List.contains_cons, List.contains_nil, Bool.or_false, beq_eq_false_iff_ne, ne_eq] at h3
    simp [kstB, h2, h3])
  k_with "m same4" => (
    intro z h2 h3
    simp only [List.forall_mem_cons, List.not_mem_nil, false_implies, implies_true, and_true, ne_eq] at h2
    simp only [List.contains_cons, List.contains_nil, Bool.or_false, Bool.or_eq_false_iff, beq_eq_false_iff_ne, ne_eq] at h3
    simp [kstB, h2, h3])
  k_with "m led" => (dsimp only [isLed, osLed, fxL, vD, hD, List.cons_append, List.nil_append]; k_extra "m sub")
  k_with "m ps" => (dsimp only [isPs, psOf]; kst_all)
  k_with "m all" => exact newsOut (by k_asm)
  k_with "m outA" => exact newsSub (by k_asm) (subApp (by k_extra "m sub"))
  k_with "m out" => exact newsSub (by k_asm) (by k_extra "m sub")
  k_with "m t1" => (first | with_reducible exact Take1.head | (refine' Take1.tail ?mt; (case mt => k_extra "m t1")))
  k_with "m take" => (first | exact TakeL.nil | (refine' TakeL.cons ?ma ?mb; (case ma => k_extra "m t1"); (case mb => k_extra "m take")))
  k_with "m cls" => (first | assumption | exact dict_cls (by assumption) | (conv => lhs; whnf))
  k_with "m nocell" => exact rfl
  k_with "m ne" => (first | assumption | (refine Ne.symm ?_; assumption) | (refine' ne_cls ?na ?nb ?nc ?nd ?nf ?ng; (case na => k_asm); (case nb => k_mem); (case nc => k_mem); (case nd => k_extra "m cls"); (case nf => k_extra "m cls"); (case ng => decide)) | (refine' ne_cell ?na ?nb ?nc ?nd ?nf; (case na => k_asm); (case nb => k_mem); (case nc => k_mem); (case nd => assumption); (case nf => k_extra "m nocell")) | (refine Ne.symm ?_; refine' ne_cell ?na ?nb ?nc ?nd ?nf; (case na => k_asm); (case nb => k_mem); (case nc => k_mem); (case nd => assumption); (case nf => k_extra "m nocell")) | (refine neN ?_; (try dsimp only); omega))
  k_with "m ne1" => (first | exact ne1_nil | (refine' ne1_tup ?nt ?nu; (case nt => first | exact rfl | assumption); (case nu => k_extra "m ne1")) | (refine' ne1_cls ?n1 ?n2 ?n3 ?n4; (case n1 => k_extra "m cls"); (case n2 => k_extra "m cls"); (case n3 => decide); (case n4 => k_extra "m ne1")) | (refine' ne1_cell ?n1 ?n2 ?n4; (case n1 => assumption); (case n2 => k_extra "m nocell"); (case n4 => k_extra "m ne1")) | (refine' ne1_cons ?nv ?nw; (case nv => k_extra "m ne"); (case nw => k_extra "m ne1")))
  k_with "m off" => (first | exact off_nil | k_extra "m offop" | (refine' off_consT ?oc ?ob; (case oc => first | exact rfl | assumption); (case ob => k_extra "m off")) | (refine' off_cons ?oa ?ob; (case oa => k_extra "m ne1"); (case ob => k_extra "m off")))
  k_with "m use" => (
    (case hA => exact rfl); (case hf => exact rfl); (case hk => exact rfl); (case hh => exact rfl)
    (case B => k_asm); (case F => k_asm); (case X => k_asm); (case T => k_asm); (case N => k_asm)
    (case hd => exact Nat.le_of_ble_eq_true rfl); (case hu => exact Nat.le_of_ble_eq_true rfl)
    (case tk => k_extra "m take")
    (case off => k_extra "m off"))
  k_with "call ref" => (k_here; k_dflt (k_extra "m call"))
  k_with "compareOp NotIn str ref" => (k_here; k_dflt (refine' notin_tuple_strs ?k1 ?k2 ?_; (case k1 => exact tupK (by k_in) (by k_is)); (case k2 => kde_strs); k_whole))
  k_with "compareOp In str ref" => (k_here; k_dflt (refine' in_tuple_strs ?k1 ?k2 ?_; (case k1 => exact tupK (by k_in) (by k_is)); (case k2 => kde_strs); k_whole))
  k_with "setItem ref str" => (k_here; k_dflt (refine' setItem_K PyProof.V.same_str (strKind_is _ _ _ _) ?v ?F ?N ?U ?d ?f ?_ ?z; (case F => k_asm); (case N => k_asm); (case U => k_updF); (case d => k_asm); (case f => k_asm); (case z => exact line_of_lenLe (n := 5) (by assumption) (by decide)); (case v => k_flat)); intro h' o' F' N' hd' hf'; (try dsimp only at N'); (try k_sweep))
  k_with "compareOp Eq ref str" => (k_here; k_dflt (refine' eq_tup_str ?k1 ?k2 ?k3 ?_; (case k1 => k_asm); (case k2 => k_mem); (case k3 => exact Nat.le_of_ble_eq_true rfl); k_whole))
  k_with "CompSrc" => (k_here; k_dflt (k_extra "m src"))
  k_with "CompEnd" => (k_here; k_extra "m compend")
  k_with "call builtin:sorted" => (k_here; k_dflt (k_extra "m sorted"))
  k_with "compareOp NotEq str str" => (k_here; k_extra "m neq")
  k_with "compareOp Eq str str" => (k_here; k_extra "m eqs")
  k_with "call builtin:str.join" => (k_here; k_dflt (k_extra "m join"))
  k_with "eval Lambda" => (k_here; k_dflt (k_extra "m lam"))
  k_with "compareOp NotEq int int" => (k_here; k_dflt (k_extra "m neqi"))
  k_with "compareOp NotEq ref ref" => (k_here; k_dflt (k_extra "m neqt"))
  k_with "call builtin:len" => (k_here; k_dflt (k_extra "m len"))
  k_with "binaryOp Add ref ref" => (k_here; k_dflt (k_extra "m addl"))
  k_with "eval ListComp" => (k_here; k_extra "m comp")
  k_with "subscriptTail" => (k_here; k_dflt (k_extra "m item"))
  k_with "execs cons" => (k_here; k_extra "m stmt")
  trivial
variable {fn0 : Addr}
local macro_rules | `(tactic| k_lt $h:ident) => `(tactic| skip)
theorem len_any {prog : Program} {w : World} {A : Around} {E : Value → Shared → Prop} {s : Shared} {h₀ : Heap} {L a : Addr} {news : Led} {vs : List Value} {n : Nat} {Q : Value → Shared → Prop} (N : News h₀ L s.heap news) (hm : (a, listOf vs.toArray n) ∈ news) (hb : vs.length < 100)
    (h : Q (.int vs.length (s.toks + 1)) { s with toks := s.toks + 1 + 1 }) : wpAny (model prog w) A (call (.builtin "len") [.ref a]) Q E s :=
  len_list (items := vs.toArray) ⟨_, (N _ hm).1, rfl, _, rfl⟩ (by size_fits) (by simpa using h)
theorem add_any {prog : Program} {w : World} {A : Around} {E : Value → Shared → Prop} {s : Shared} {h₀ : Heap} {L a b : Addr} {m : Str → Option Value} {news : Led} {vs ws : List Value} {n n2 : Nat} {Q : Value → Shared → Prop} (F : Fr h₀ L s.heap m) (N : News h₀ L s.heap news) (ma : (a, listOf vs.toArray n) ∈ news) (mb : (b, listOf ws.toArray n2) ∈ news) (hv : vs.length < 200) (hw : ws.length < 200)
    (h : ∀ D h', Fr h₀ L h' m → News h₀ L h' ((D, listOf (vs ++ ws).toArray 0) :: news) → (∀ p ∈ news, p.1 < D) → Q (.ref D) { s with heap := h' }) : wpAny (model prog w) A (binaryOp .Add (.ref a) (.ref b)) Q E s := by
  refine add_arrays (its := vs.toArray) (its2 := ws.toArray) F N ⟨_, (N _ ma).1, rfl, _, rfl⟩ ⟨_, (N _ mb).1, rfl, _, rfl⟩ (fun h' F' N' => h _ h' F' N' fun p hp => Heap.lt_size (N p hp).1) ?_
  rw [PySem.sizeLine_eq, List.size_toArray, List.size_toArray]
  omega
theorem trip_get {vs : List Value} {pl : Led} {ts : List (Int × Int × Int)} (h : Trip vs pl ts) : ∀ (i : Nat) (v : Value), vs[i]? = some v → ∃ a n f l t1 t2 t3, v = .ref a ∧ (a, tup [.int n t1, .int f t2, .int l t3]) ∈ pl ∧ ts[i]? = some (n, f, l) := by
  induction h with
  | nil => intro i v hv; simp at hv
  | @cons a n f l t1 t2 t3 vs pl ts _ ih =>
    intro i v hv
    cases i with
    | zero => exact ⟨a, n, f, l, t1, t2, t3, (Option.some.inj hv).symm, .head _, rfl⟩
    | succ i =>
      obtain ⟨a', n', f', l', u1, u2, u3, e1, e2, e3⟩ := ih i v hv
      exact ⟨a', n', f', l', u1, u2, u3, e1, .tail _ e2, e3⟩
theorem strs_get {vs : List Value} {ss : List Str} (h : StrsAre vs ss) : ∀ (i : Nat), i < ss.length → ∃ t, vs[i]? = some (.str (ss.getD i ⟨#[]⟩) t) := by
  induction h with
  | nil => intro i hi; cases hi
  | cons x t _ ih =>
    intro i hi
    cases i with
    | zero => exact ⟨t, rfl⟩
    | succ i => exact ih i (Nat.lt_of_succ_lt_succ hi)
def piecesOf (src : List Str) (ts : List (Int × Int × Int)) : List Str := ts.map fun q => Txt.slice (src.getD q.1.toNat ⟨#[]⟩) (some q.2.1) (some q.2.2)
theorem pieces_spell {src : List Str} : ∀ {ts : List (Int × Int × Int)}, Good src ts → ((piecesOf src ts).map cs).flatten = spell src ts
  | [], _ => rfl
  | (n, f, l) :: r, h => by
    have hq := h _ (.head _)
    dsimp only at hq
    show cs (Txt.slice _ (some f) (some l)) ++ ((piecesOf src r).map cs).flatten = _
    rw [pieces_spell fun q hq => h q (.tail _ hq), cs_slice hq.2.2.1 hq.2.2.2.1 hq.2.2.2.2]
    rfl
theorem sum_lens : ∀ (ss : List Str), (ss.map (·.length)).sum = ((ss.map cs).flatten).length
  | [] => rfl
  | t :: r => by
    have ih := sum_lens r
    simp only [List.map_cons, List.sum_cons, List.flatten_cons, List.length_append, cs_len]
    omega
theorem law_turn3 {w : World} {lo : List Str} {mean mg mb} {base g : Heap} {s : Shared} {Q : Flow → Shared → Prop} {E : Value → Shared → Prop} {L bx la sa pa da I : Addr} {x1 x2 : Int} {oB oS oF oP : Obj} {c b e : Int} {tc ts tb te tt tl : Tok} {vs svs pvs dvs : List Value} {k j ks kp kd : Nat} {op pl : Led} {ps : Array Value} {u : Str → Option Value} {S Y : Str} {srcs : List Str} {tsr : List (Int × Int × Int)}
    (B : Below callerA base [] g) (X : (KF w.params).In g) (T : Top topProg lo mean mg mb g)
    (F : Fr g L s.heap (fun y => ([(Str.ofString "subject", .str S ts), (Str.ofString "pieces", .ref pa), (Str.ofString "deeds", .ref da), (Str.ofString "later", .str (splT S Y b e) tl), (Str.ofString "begin", .int b tb), (Str.ofString "end", .int e te), (Str.ofString "text", .str Y tt)].lookup y).or (u y)))
    (N : News g L s.heap ((I, itR x1 x2) :: lawLd L bx la sa pa da oB oS oF oP c tc vs k j svs ks pvs kp dvs kd ps op)) (hop : OpT op) (hCH : CodeHd g 476 474)
    (d1 : oB.data = .cell (some (.ref bx))) (d2 : oS.data = .cell (some (.ref sa))) {vF vP : Option Value} (d3 : oF.data = .cell vF) (d4 : oP.data = .cell vP)
    (htr : Trip pvs pl tsr) (hpl : ∀ p ∈ pl, p ∈ op) (hxp : pvs.length < 40) (hsr : StrsAre svs srcs) (hsv : svs.length < 40) (hdv : dvs.length < 40) (hgd : Good srcs tsr) (hsp : spell srcs tsr = cs S) (hsl : ∀ t ∈ srcs, t.length < 900) (hts : ∀ q ∈ tsr, 0 ≤ q.2.1 ∧ q.2.1 ≤ q.2.2 ∧ q.2.2 < 1000) (h3 : S.length < 100) (hY : Y.length < 300) {xs : List Int} {dl : Led} {ds : List Deed} {S0 : Str} {i : Nat} (hTA : TabA ps op) (hi : IntsAre vs xs) (hx : vs.length ≤ 60) (hc0 : 0 ≤ c) (hc1 : c ≤ 100 + 10 * ((i + 1 : Nat) : Int)) (hokS : okS S) (hokY : okS Y) (hYl : (Y.length : Int) ≤ (e - b) + 6) (hSi : S.length ≤ 8 + 6 * i) (hi8 : i < 9) (hsi : srcs.length ≤ 1 + i) (hs0 : srcs[0]? = some S0) (hti : tsr.length ≤ 1 + 2 * i) (hqd : Quad dvs dl ds) (hdl : ∀ p ∈ dl, p ∈ op) (hdi : ds.length ≤ i) (hch : ChnR S0 ds.reverse S)
    (hQ : ∀ m' news' h' tk', LawSt L bx la sa da S0 (i + 1) m' news' → Fr g L h' m' → News g L h' ((I, itR x1 x2) :: news') → (∀ p ∈ news', p.1 ≠ I) → Q .next { s with heap := h', toks := tk' }) (h0 : 0 ≤ b) (h1 : b ≤ e) (h2 : e ≤ S.length)
    (n1 : @Ne Nat bx la) (n2 : @Ne Nat sa bx) (n3 : @Ne Nat sa la) (n4 : @Ne Nat da bx) (n5 : @Ne Nat da la) (n6 : @Ne Nat da sa) (n7 : @Ne Nat pa bx) (n8 : @Ne Nat pa la) (n9 : @Ne Nat pa sa) (n10 : @Ne Nat pa da) :
    wpAny (model PW w) (callerA.deeper (lawEnv L fn0)) (execs (turnBody.drop 11) (lawEnv L fn0)) Q E s := by
  unfold lawEnv
  generalize hs : scoOf (stAt 64) = sc
  (conv at hs => lhs; whnf)
  subst hs
  generalize hb : turnBody.drop 11 = bd
  (conv at hb => lhs; whnf)
  subst hb
  have hxt : tsr.length < 40 := by rw [← Trip.len htr]; exact hxp
  (try dsimp only)
  (try k_fold)
  k_with "m nocell" => (first | exact rfl | exact dict_noCell (by assumption))
  k_with "m nof" => (first | exact allNil | (refine' allCons ?na ?nb; (case na => first | exact rfl | assumption | exact nf_cell (by assumption) | exact dict_noFields (by assumption)); (case nb => k_extra "m nof")))
  k_with "m ne" => (first | with_reducible assumption | (refine Ne.symm ?_; with_reducible assumption) | (refine' ne_of_all ?nx ?ny; (case nx => with_reducible assumption); (case ny => k_mem)) | (refine' Ne.symm (ne_of_all ?nx ?ny); (case nx => with_reducible assumption); (case ny => k_mem)) | (refine' ne_of_ne ?nx ?ny; (case nx => with_reducible assumption); (case ny => k_mem)) | (refine' Ne.symm (ne_of_ne ?nx ?ny); (case nx => with_reducible assumption); (case ny => k_mem)) | (refine' ne_cls ?na ?nb ?nc ?nd ?nf ?ng; (case na => k_asm); (case nb => k_mem); (case nc => k_mem); (case nd => k_extra "m cls"); (case nf => k_extra "m cls"); (case ng => decide)) | (refine' ne_cell ?na ?nb ?nc ?nd ?nf; (case na => k_asm); (case nb => k_mem); (case nc => k_mem); (case nd => with_reducible assumption); (case nf => k_extra "m nocell")) | (refine Ne.symm ?_; refine' ne_cell ?na ?nb ?nc ?nd ?nf; (case na => k_asm); (case nb => k_mem); (case nc => k_mem); (case nd => with_reducible assumption); (case nf => k_extra "m nocell")) | (refine neN ?_; (try dsimp only); omega))
  k_with "m offop" => (refine' off_op ?ho ?hn; (case ho => with_reducible assumption); (case hn => k_extra "m nof"))
  k_with "m kall" => (first
    | (refine' op_cls ?ka ?kb ?kc ?kd ?ke ?kf ?kg; (case ka => k_asm); (case kb => k_mem); (case kc => (intro p hp; repeat' (first | exact hp | refine List.Mem.tail _ ?_))); (case kd => assumption); (case ke => k_extra "m cls"); (case kf => decide); (case kg => first | exact rfl | exact dict_noFields (by assumption)))
    | (refine' op_cell ?ka ?kb ?kc ?kd ?ke; (case ka => k_asm); (case kb => k_mem); (case kc => (intro p hp; repeat' (first | exact hp | refine List.Mem.tail _ ?_))); (case kd => assumption); (case ke => assumption)))
  k_with "m nt" => (first | exact allNil | (refine' allCons ?na ?nb; (case na => first | exact rfl | assumption | exact nt_dict (by assumption) | exact nt_cell (by assumption)); (case nb => k_extra "m nt")))
  k_with "m addl" => (refine' add_any ?adF ?adN ?ada ?adb ?adv ?adw ?_; (case adF => k_asm); (case adN => k_asm); (case ada => k_mem); (case adb => k_mem); (case adv => first | omega | (simp only [List.length_append, List.length_cons, List.length_nil]; omega)); (case adw => first | omega | (simp only [List.length_append, List.length_cons, List.length_nil]; omega)); k_whole; intro lD' h' F' N' lDl; (try dsimp only))
  k_with "m comp" => (refine stopHere ?_)
  k_with "m len" => (refine' len_any ?lnN ?lnm ?lnb ?_; (case lnN => k_asm); (case lnm => k_mem); (case lnb => omega); k_whole)
  k_with "m call" => (first
    | (refine' use_cut ?B ?F ?X ?T ?N ?hA ?hf ?hk ?hh ?hd ?hu htr ?hpl ?hop ?g1 ?g2 hxp hts ?tk ?sp ?hoff ?_; (case hA => exact rfl); (case hf => exact rfl); (case hk => exact rfl); (case hh => exact rfl)
       (case B => k_asm); (case F => k_asm); (case X => k_asm); (case T => k_asm); (case N => k_asm)
       (case hd => exact Nat.le_of_ble_eq_true rfl); (case hu => exact Nat.le_of_ble_eq_true rfl)
       (case tk => k_extra "m take"); (case hop => with_reducible assumption); (case sp => repeat' (first | exact SplitT.nil | refine' SplitT.cons ?_))
       (case hoff => k_extra "m off")
       (case hpl => with_reducible assumption)
       (case g1 => (constructor <;> omega)); (case g2 => (constructor <;> omega))
       k_whole
       intro fa' vs' pl' kf' h' tk' F' N' htc hopc hnc hnc2
       (have hcl : vs'.length < 40 := by (rw [Trip.len htc]; exact Nat.lt_of_le_of_lt (cut_len _ _) (by omega)))
       (have hplc := fun p hp => List.mem_append_right pl' ((by with_reducible assumption : ∀ p ∈ pl, p ∈ _) p hp))
       (try dsimp only [List.cons_append, List.nil_append] at N')
       (try dsimp only)
       (try k_fold))
    | (refine stopHere ?_))
  k_steps
  unfold Stop
  rename News _ _ _ _ => N9
  rename Fr _ _ _ _ => F9
  rename_i faA vsA plA kfA g10 tkA htA hopA hncA hncA2 hclA hplcA Dp g9 q4 Dl g8 q3 Da g7 q2 g6 g5 tka g4 tkb Dd g3 q1 g2 g1
  rw [List.push_toArray, List.push_toArray] at N9
  have hss : svs.length = srcs.length := StrsAre.length_eq hsr
  have hsr2 := strs_snoc (v := Y) (t := tt) hsr
  obtain ⟨hsp2, hgd2⟩ := turn_spell (t := Y) hgd hsp h0 h1 h2
  rw [← hss] at hsp2 hgd2
  have hT : ∀ t1 t2 t3, Trip (vsA ++ [Value.ref Dp] ++ vs') (plA ++ [(Dp, tup [.int (svs.length : Int) t1, .int 0 t2, .int (Y.length : Int) t3])] ++ pl') (cutT 0 0 b tsr ++ [((svs.length : Int), 0, (Y.length : Int))] ++ cutT 0 e S.length tsr) := fun t1 t2 t3 => (htA.append (.cons .nil)).append htc
  have hTl := Trip.len (hT 0 0 0)
  have hJ : Txt.join (Str.ofString "") (piecesOf (srcs ++ [Y]) (cutT 0 0 b tsr ++ [((svs.length : Int), 0, (Y.length : Int))] ++ cutT 0 e S.length tsr)) = splT S Y b e := by
    apply str_ext
    rw [cs_join, pieces_spell hgd2, hsp2]
  have hJs : ((piecesOf (srcs ++ [Y]) (cutT 0 0 b tsr ++ [((svs.length : Int), 0, (Y.length : Int))] ++ cutT 0 e S.length tsr)).map (·.length)).sum ≤ 2 * S.length + Y.length := by
    have q1 : ((piecesOf (srcs ++ [Y]) (cutT 0 0 b tsr ++ [((svs.length : Int), 0, (Y.length : Int))] ++ cutT 0 e S.length tsr)).map (·.length)).sum = (splT S Y b e).length := by
      rw [sum_lens, pieces_spell hgd2, hsp2, cs_len]
    rw [q1]
    exact spl_len S Y b e
  have hJl : (piecesOf (srcs ++ [Y]) (cutT 0 0 b tsr ++ [((svs.length : Int), 0, (Y.length : Int))] ++ cutT 0 e S.length tsr)).length < 200 := by
    rw [piecesOf, List.length_map, ← hTl]
    simp only [List.length_append, List.length_cons, List.length_nil]
    omega
  refine comp3 (fun i ys => StrsAre ys (piecesOf (srcs ++ [Y]) ((cutT 0 0 b tsr ++ [((svs.length : Int), 0, (Y.length : Int))] ++ cutT 0 e S.length tsr).take i))) F9 (by with_unfolding_all rfl) (by decide) (by rfl) (by decide) (by rfl) (by rfl) (by rfl) (by decide) (by decide) (by decide) rfl ?_
  walk1
  refine' ⟨_, _, _, _, rfl, F9, N9, ?c3m, ?c3l, .nil, ?c3e, ?c3f⟩
  case c3m => k_mem
  case c3l => (simp only [List.length_append, List.length_cons, List.length_nil]; omega)
  case c3e =>
    intro i v hv
    obtain ⟨a, n, f, l, u1, u2, u3, rfl, hm, hts2⟩ := trip_get (hT (tkA + 1) (tkA + 1 + 1) (tkA + 1 + 1 + 1 + 1)) i v hv
    have hq := hgd2 _ (List.mem_of_getElem? hts2)
    dsimp only at hq
    rw [List.length_append, List.length_singleton] at hq
    obtain ⟨tx, hitem⟩ := strs_get hsr2 n.toNat (by rw [List.length_append, List.length_singleton]; omega)
    have hXl : ((srcs ++ [Y]).getD n.toNat ⟨#[]⟩).length < 1000 := by
      rcases Nat.lt_or_ge n.toNat srcs.length with hlt | hge
      · rw [List.getD_eq_getElem?_getD, List.getElem?_append_left hlt, List.getElem?_eq_getElem hlt]
        exact Nat.lt_trans (hsl _ (List.getElem_mem hlt)) (by decide)
      · rw [List.getD_eq_getElem?_getD, List.getElem?_append_right hge, show n.toNat - srcs.length = 0 by omega]
        exact Nat.lt_trans hY (by decide)
    refine ⟨a, .int n u1, .int f u2, .int l u3, rfl, ?mm9, ?go9⟩
    case mm9 =>
      rcases List.mem_append.mp hm with hp | hp
      · rcases List.mem_append.mp hp with hp | hp
        · have z : (a, tup [Value.int n u1, .int f u2, .int l u3]) ∈ pl' ++ (plA ++ op) := List.mem_append_right _ (List.mem_append_left _ hp)
          repeat' (first | exact z | refine List.Mem.tail _ ?_)
        · rw [List.mem_singleton.mp hp]; k_mem
      · have z : (a, tup [Value.int n u1, .int f u2, .int l u3]) ∈ pl' ++ (plA ++ op) := List.mem_append_left _ hp
        repeat' (first | exact z | refine List.Mem.tail _ ?_)
    case go9 =>
      intro ys I9 oI C9 oC D9 m9 h9 tk9 E9 hiv hoC hx1 hx2 hx3 F10 N10
      clear F9 N9 hJ hJs hJl hT hTl hsp2 hgd2 hgd hsp hm hv q1 q2 q3 q4 hncA2 hnc2 hplcA hplc
      k_with "m item" => (refine' list_item ?itN ?itm ?it0 ?it1 ?itx ?_; (case itN => k_asm); (case itm => k_mem); (case itx => exact hitem); (case it0 => omega); (case it1 => omega))
      (try dsimp only)
      (try k_fold)
      k_steps
      all_goals first
        | k_asm
        | (rw [List.take_add_one, hts2]
           show StrsAre _ (List.map _ (_ ++ [_]))
           rw [List.map_append]
           exact strs_snoc hiv)
  case c3f =>
    intro ys D9 h9 tk9 hiv F10 N10
    rw [List.take_of_length_le (Nat.le_of_eq hTl.symm)] at hiv
    clear F9 N9
    k_with "m join" => (refine join_listW (by first | is_list | kso_list) hiv (by decide) (by omega) ?_; intro t9 k9; (try dsimp only))
    k_with "m neq" => (refine' str_ne_of ?ne9 ?_; (case ne9 => exact hJ); k_whole)
    (try dsimp only)
    (try k_fold)
    k_steps
    have hle := spl_len_eq (S := S) (Y := Y) (b := b) (e := e) h0 h1 h2
    have hlo : ∀ q ∈ tsr, q.2.1 ≤ q.2.2 := fun q hq => (hgd q hq).2.2.2.1
    have hct := cut_two (b := b) (e := e) (m := S.length) h1 tsr 0 (Int.le_refl _) hlo
    have hTx := hT (tkA + 1) (tkA + 1 + 1) (tkA + 1 + 1 + 1 + 1)
    have hN : News g L h9 ((I, itR x1 x2) :: lawLd L bx la sa lD' da oB oS oF oP c tc vs k j (svs ++ [.str Y tt]) (ks + 1) (vsA ++ [Value.ref Dp] ++ vs') 0 (dvs ++ [.ref Dd]) (kd + 1) ps ((Dd, tup [.str S ts, .int b tb, .int e te, .str Y tt]) :: (Dp, tup [.int (svs.length : Int) (tkA + 1), .int 0 (tkA + 1 + 1), .int (Y.length : Int) (tkA + 1 + 1 + 1 + 1)]) :: (pl' ++ (plA ++ op)))) :=
      newsSub2 N10 (by k_extra "m sub")
    have hopN : OpT ((Dd, tup [.str S ts, .int b tb, .int e te, .str Y tt]) :: (Dp, tup [.int (svs.length : Int) (tkA + 1), .int 0 (tkA + 1 + 1), .int (Y.length : Int) (tkA + 1 + 1 + 1 + 1)]) :: (pl' ++ (plA ++ op))) := .cons (.inl ⟨_, rfl⟩) (.cons (.inl ⟨_, rfl⟩) hopc)
    have hTA2 : TabA ps ((Dd, tup [.str S ts, .int b tb, .int e te, .str Y tt]) :: (Dp, tup [.int (svs.length : Int) (tkA + 1), .int 0 (tkA + 1 + 1), .int (Y.length : Int) (tkA + 1 + 1 + 1 + 1)]) :: (pl' ++ (plA ++ op))) := by
      have up : ∀ p ∈ op, p ∈ ((Dd, tup [.str S ts, .int b tb, .int e te, .str Y tt]) :: (Dp, tup [.int (svs.length : Int) (tkA + 1), .int 0 (tkA + 1 + 1), .int (Y.length : Int) (tkA + 1 + 1 + 1 + 1)]) :: (pl' ++ (plA ++ op)) : Led) := fun p hp => .tail _ (.tail _ (List.mem_append_right _ (List.mem_append_right _ hp)))
      rcases hTA with e | ⟨c1, o1, c2, o2, e, a1, a2, a3, a4⟩
      · exact .inl e
      · exact .inr ⟨c1, o1, c2, o2, e, up _ a1, a2, up _ a3, a4⟩
    refine hQ _ _ h9 k9 ⟨splT S Y b e, tl, c, tc, vs, xs, k, j, svs ++ [.str Y tt], srcs ++ [Y], ks + 1, lD', vsA ++ [Value.ref Dp] ++ vs', _, _, 0, dvs ++ [.ref Dd], dl ++ [(Dd, tup [.str S ts, .int b tb, .int e te, .str Y tt])], ds ++ [(S, b, e, Y)], kd + 1, oB, oS, oF, oP, vF, vP, ps, _, _, chain_ofC _ ?z1, rfl, hopN, hTA2, d1, d2, d3, d4, hi, hx, hc0, hc1, ?z2, ?z3, hsr2, ?z4, ?z5, ?z6, hTx, ?z7, ?z8, hgd2, hsp2, hqd.append (.cons .nil), ?z9, ?za, ?zb, ?zc1, ?zc2, ?zc3, ?zc4⟩ F10 hN (off_itr hN ?zd)
    case z1 => (exact .cons (by rfl) (.cons (by rfl) (.cons (by rfl) (.nil))))
    case z2 => exact ((hokS.to h0 (by omega)).append hokY).append (hokS.from (by omega) h2)
    case z3 => omega
    case z4 => (rw [List.length_append, List.length_singleton]; omega)
    case z5 =>
      cases srcs with
      | nil => cases hs0
      | cons t r => exact hs0
    case z6 =>
      intro t ht
      rcases List.mem_append.mp ht with ht | ht
      · exact hsl t ht
      · rw [List.mem_singleton.mp ht]; omega
    case z7 =>
      intro p hp
      rcases List.mem_append.mp hp with hp | hp
      · rcases List.mem_append.mp hp with hp | hp
        · exact .tail _ (.tail _ (List.mem_append_right _ (List.mem_append_left _ hp)))
        · rw [List.mem_singleton.mp hp]; exact .tail _ (.head _)
      · exact .tail _ (.tail _ (List.mem_append_left _ hp))
    case z8 => (simp only [List.length_append, List.length_cons, List.length_nil]; omega)
    case z9 =>
      intro p hp
      rcases List.mem_append.mp hp with hp | hp
      · exact .tail _ (.tail _ (List.mem_append_right _ (List.mem_append_right _ (hdl p hp))))
      · rw [List.mem_singleton.mp hp]; exact .head _
    case za => (rw [List.length_append, List.length_singleton]; omega)
    case zb =>
      rw [List.reverse_append]
      exact ⟨rfl, h0, h1, h2, h3, by omega, by omega, hch⟩
    case zc1 => k_extra "m ne"
    case zc2 => k_extra "m ne"
    case zc3 => k_extra "m ne"
    case zc4 => k_extra "m ne"
    case zd => exact law_off d1 d2 d3 d4 hopN
end

section
theorem regMBk2 : (fun (_ : OpenLaw) (_ : Params → Frag) => True) PySem.Challenge.rw_sj0197_01 KF := by
  k_with_none
  k_with "m enter" => (
    (case k1 => exact B); (case k2 => exact X); (case k3 => exact T); (case k4 => exact st); (case k5 => exact sz); (case k6 => exact N)
    (case k7 => k_dflt k_is)
    (case hb => (conv => lhs; whnf))
    (case hs => (conv => lhs; whnf))
    (case k8 => k_dflt k_is)
    (case k9 => decide)
    (case k10 => exact BindsTo.of_eq rfl)
    (case k11 => exact locs rfl)
    (case c1 => exact rfl); (case c2 => exact rfl); (case c3 => exact rfl); (case c4 => decide)
    clear st sz N
    intro L h F N'
    (try dsimp only)
    (try k_fold))
  k_with "m end" => ((try k_unfold); (try dsimp only); refine' hret _ _ _ ?e1 ?e2 ?e3 ?e4; (case e1 => exact Fr.keep (by k_asm)); (case e4 => k_extra "m kept"))
  k_with "m kept" => (first | exact kept_nil | (refine' kept_tup ?ka ?kb ?kc; (case ka => k_asm); (case kb => k_mem); (case kc => k_extra "m kept")) | (refine' kept_not ?kd ?ke ?kf; (case kd => k_extra "m cls"); (case ke => decide); (case kf => k_extra "m kept")))
  k_with "m sub" => (first | exact subNil | exact subRefl | (refine' subStep ?su; (case su => k_extra "m sub")) | (refine' subUpS ?sk ?su; (case sk => ((fail_if_success (refine skipOf ?_; k_mem)); exact trivial)); (case su => k_extra "m sub")) | (refine' subCons ?sa ?sb; (case sa => k_mem); (case sb => k_extra "m sub")))
  k_with "m same" => (
    intro z h2 h3
    simp only [List.forall_mem_cons, List.not_mem_nil, false_implies, implies_true, and_true, ne_eq] at h2
    simp [kstB, h2])
  k_with "m same2" => (
    intro z h2 h3
    dsimp only [isPs, psOf] at h2
    simp only [List.forall_mem_cons, List.not_mem_nil, false_implies, implies_true, and_true, ne_eq] at h2
    simp only [List.contains_cons, List.contains_nil, Bool.or_false, Bool.or_eq_false_iff, beq_eq_false_iff_ne, ne_eq] at h3
    simp [kstB, h2, h3])
  k_with "m same3" => (
    intro z h2 h3
    simp only [List.forall_mem_cons, List.not_mem_nil, false_implies, implies_true, and_true, ne_eq] at h2
    simp only [List.contains_cons, List.contains_nil, Bool.or_false, beq_eq_false_iff_ne, ne_eq] at h3
    simp [kstB, h2, h3])
  k_with "m same4" => (
    intro z h2 h3
    simp only [List.forall_mem_cons, List.not_mem_nil, false_implies, implies_true, and_true, ne_eq] at h2
    simp only [List.contains_cons, List.contains_nil, Bool.or_false, Bool.or_eq_false_iff, beq_eq_false_iff_ne, ne_eq] at h3
    simp [kstB, h2, h3])
  k_with "m led" => (dsimp only [isLed, osLed, fxL, vD, hD, List.cons_append, List.nil_append]; k_extra "m sub")
  k_with "m ps" => (dsimp only [isPs, psOf]; kst_all)
  k_with "m all" => exact newsOut (by k_asm)
  k_with "m outA" => exact newsSub (by k_asm) (subApp (by k_extra "m sub"))
  k_with "m out" => exact newsSub (by k_asm) (by k_extra "m sub")
  k_with "m t1" => (first | with_reducible exact Take1.head | (refine' Take1.tail ?mt; (case mt => k_extra "m t1")))
  k_with "m take" => (first | exact TakeL.nil | (refine' TakeL.cons ?ma ?mb; (case ma => k_extra "m t1"); (case mb => k_extra "m take")))
  k_with "m cls" => (first | assumption | exact dict_cls (by assumption) | (conv => lhs; whnf))
  k_with "m nocell" => exact rfl
  k_with "m ne" => (first | assumption | (refine Ne.symm ?_; assumption) | (refine' ne_cls ?na ?nb ?nc ?nd ?nf ?ng; (case na => k_asm); (case nb => k_mem); (case nc => k_mem); (case nd => k_extra "m cls"); (case nf => k_extra "m cls"); (case ng => decide)) | (refine' ne_cell ?na ?nb ?nc ?nd ?nf; (case na => k_asm); (case nb => k_mem); (case nc => k_mem); (case nd => assumption); (case nf => k_extra "m nocell")) | (refine Ne.symm ?_; refine' ne_cell ?na ?nb ?nc ?nd ?nf; (case na => k_asm); (case nb => k_mem); (case nc => k_mem); (case nd => assumption); (case nf => k_extra "m nocell")) | (refine neN ?_; (try dsimp only); omega))
  k_with "m ne1" => (first | exact ne1_nil | (refine' ne1_tup ?nt ?nu; (case nt => first | exact rfl | assumption); (case nu => k_extra "m ne1")) | (refine' ne1_cls ?n1 ?n2 ?n3 ?n4; (case n1 => k_extra "m cls"); (case n2 => k_extra "m cls"); (case n3 => decide); (case n4 => k_extra "m ne1")) | (refine' ne1_cell ?n1 ?n2 ?n4; (case n1 => assumption); (case n2 => k_extra "m nocell"); (case n4 => k_extra "m ne1")) | (refine' ne1_cons ?nv ?nw; (case nv => k_extra "m ne"); (case nw => k_extra "m ne1")))
  k_with "m off" => (first | exact off_nil | k_extra "m offop" | (refine' off_consT ?oc ?ob; (case oc => first | exact rfl | assumption); (case ob => k_extra "m off")) | (refine' off_cons ?oa ?ob; (case oa => k_extra "m ne1"); (case ob => k_extra "m off")))
  k_with "m use" => (
    (case hA => exact rfl); (case hf => exact rfl); (case hk => exact rfl); (case hh => exact rfl)
    (case B => k_asm); (case F => k_asm); (case X => k_asm); (case T => k_asm); (case N => k_asm)
    (case hd => exact Nat.le_of_ble_eq_true rfl); (case hu => exact Nat.le_of_ble_eq_true rfl)
    (case tk => k_extra "m take")
    (case off => k_extra "m off"))
  k_with "call ref" => (k_here; k_dflt (k_extra "m call"))
  k_with "compareOp NotIn str ref" => (k_here; k_dflt (refine' notin_tuple_strs ?k1 ?k2 ?_; (case k1 => exact tupK (by k_in) (by k_is)); (case k2 => kde_strs); k_whole))
  k_with "compareOp In str ref" => (k_here; k_dflt (refine' in_tuple_strs ?k1 ?k2 ?_; (case k1 => exact tupK (by k_in) (by k_is)); (case k2 => kde_strs); k_whole))
  k_with "setItem ref str" => (k_here; k_dflt (refine' setItem_K PyProof.V.same_str (strKind_is _ _ _ _) ?v ?F ?N ?U ?d ?f ?_ ?z; (case F => k_asm); (case N => k_asm); (case U => k_updF); (case d => k_asm); (case f => k_asm); (case z => exact line_of_lenLe (n := 5) (by assumption) (by decide)); (case v => k_flat)); intro h' o' F' N' hd' hf'; (try dsimp only at N'); (try k_sweep))
  k_with "compareOp Eq ref str" => (k_here; k_dflt (refine' eq_tup_str ?k1 ?k2 ?k3 ?_; (case k1 => k_asm); (case k2 => k_mem); (case k3 => exact Nat.le_of_ble_eq_true rfl); k_whole))
  k_with "CompSrc" => (k_here; k_dflt (k_extra "m src"))
  k_with "CompEnd" => (k_here; k_extra "m compend")
  k_with "call builtin:sorted" => (k_here; k_dflt (k_extra "m sorted"))
  k_with "compareOp NotEq str str" => (k_here; k_extra "m neq")
  k_with "compareOp Eq str str" => (k_here; k_extra "m eqs")
  k_with "call builtin:str.join" => (k_here; k_dflt (k_extra "m join"))
  k_with "eval Lambda" => (k_here; k_dflt (k_extra "m lam"))
  k_with "compareOp NotEq int int" => (k_here; k_dflt (k_extra "m neqi"))
  k_with "compareOp NotEq ref ref" => (k_here; k_dflt (k_extra "m neqt"))
  k_with "call builtin:len" => (k_here; k_dflt (k_extra "m len"))
  k_with "binaryOp Add ref ref" => (k_here; k_dflt (k_extra "m addl"))
  k_with "eval ListComp" => (k_here; k_extra "m comp")
  k_with "subscriptTail" => (k_here; k_dflt (k_extra "m item"))
  k_with "execs cons" => (k_here; k_extra "m stmt")
  trivial
variable {fn0 : Addr}
local macro_rules | `(tactic| k_lt $h:ident) => `(tactic| skip)
theorem okS.six {X : Str} (h : okS X) : okS (Txt.slice X none (some 6)) := by
  by_cases h6 : (6 : Int) ≤ X.length
  · exact h.to (by decide) h6
  · rw [slice_over (by omega), ← slice_over (i := none) (j := (X.length : Int)) (Int.le_refl _)]
    exact h.to (by omega) (Int.le_refl _)
theorem okS_put {form : Int} {a b : Str} (h1 : okS a) (h2 : okS b) : okS (putT form a b) := by
  unfold putT
  split
  · intro n hn; cases hn
  · split
    · intro n hn; exact (show ∀ n ∈ cs (Str.ofString "x"), n < 0x110000 by decide) n hn
    · split
      · exact h2.append h1
      · exact okS.six ((h1.append (show okS (Str.ofString "y") from show ∀ n ∈ cs (Str.ofString "y"), n < 0x110000 by decide)).append h1)
theorem put_len3 {form : Int} {S : Str} {b m e : Int} (h0 : 0 ≤ b) (h1 : b ≤ m) (h2 : m ≤ e) (h3 : e ≤ S.length) : ((putT form (Txt.slice S (some b) (some m)) (Txt.slice S (some m) (some e))).length : Int) ≤ (e - b) + 6 := by
  unfold putT
  split
  · have : (Str.ofString "").length = 0 := rfl
    omega
  · split
    · have : (Str.ofString "x").length = 1 := rfl
      omega
    · split
      · rw [Str.length_append, ← cs_len, ← cs_len, cs_slice h0 h1 (by omega), cs_slice (by omega) h2 h3]
        simp only [List.length_take, List.length_drop, cs_len]
        omega
      · have := slice6 (Txt.slice S (some b) (some m) ++ Str.ofString "y" ++ Txt.slice S (some b) (some m))
        omega
theorem fr_chain {h₀ h : Heap} {L : Addr} {m : Str → Option Value} (F : Fr h₀ L h m) (ps : List (Str × Value)) (hp : ∀ p ∈ ps, m p.1 = some p.2) : Fr h₀ L h (fun y => (ps.lookup y).or (m y)) := by
  rw [← chain_of ps hp]
  exact F
theorem fr_chainC {h₀ h : Heap} {L : Addr} {m : Str → Option Value} (F : Fr h₀ L h m) (ps : List (Str × Value)) (hp : Ck m ps) : Fr h₀ L h (fun y => (ps.lookup y).or (m y)) := fr_chain F ps hp.all
theorem law_turn2 {w : World} {lo : List Str} {mean mg mb} {base g : Heap} {s : Shared} {Q : Flow → Shared → Prop} {E : Value → Shared → Prop} {L bx la sa pa da I rw : Addr} {x1 x2 : Int} {oB oS oF oP : Obj} {c form : Int} {tc ts tb tf tn jw1 jw2 jw3 uw1 uw3 : Tok} {vs svs pvs dvs : List Value} {xs : List Int} {k j ks kp kd : Nat} {op : Led} {ps : Array Value} {u : Str → Option Value} {C : MC} {lf1 lf2 : Leaf} {r : Value}
    (B : Below callerA base [] g) (X : (KF w.params).In g) (T : Top topProg lo mean mg mb g)
    (F : Fr g L s.heap (fun y => ([(Str.ofString "found", r), (Str.ofString "node", .ref C.no), (Str.ofString "host", .ref C.hs), (Str.ofString "subject", .str C.S ts), (Str.ofString "pieces", .ref pa), (Str.ofString "deeds", .ref da)].lookup y).or (u y)))
    (N : News g L s.heap ((C.no, tup [.str (Str.ofString "cat") C.t0, .ref C.f1, .ref C.f2]) :: (C.f1, tup [.str (Str.ofString "later") C.t1, .ref C.l1, .ref C.wr]) :: (C.f2, tup [.str (Str.ofString "now") C.t2, .ref C.l2, .ref C.vr]) :: (C.l1, C.o1) :: (C.l2, C.o2) :: (C.hs, instObj 229 C.hd) :: hD w C 0 tn :: (C.vr, instObj 138 C.rd) :: (C.rd, refD w C.j1 C.j2 C.j3 (Str.ofString "V") C.u1 C.u3) :: (C.rl, listOf #[] C.rn) :: (C.vd, C.od) :: (C.lg, listOf C.lv.toArray C.ln) :: (C.wr, instObj 138 rw) :: (rw, refD w jw1 jw2 jw3 (Str.ofString "W") uw1 uw3) :: (I, itR x1 x2) :: lawLd L bx la sa pa da oB oS oF oP c tc vs k j svs ks pvs kp dvs kd ps op)) (hop : OpT op) (hTA : TabA ps op) (hCH : CodeHd g 476 474)
    (d1 : oB.data = .cell (some (.ref bx))) (d2 : oS.data = .cell (some (.ref sa))) (d3 : oF.data = .cell (some (.int form tf))) (d4 : oP.data = .cell (some (.int C.b tb)))
    (hfv : FoundV C.S C.b tb lf1 lf2 r op) (hform : 0 ≤ form ∧ form < 4)
    (hl1 : LeafObj C.o1 lf1) (hl2 : LeafObj C.o2 lf2) (hk1 : lf1.ok) (hk2 : lf2.ok) (hcl1 : C.o1.cls = TUP) (hcl2 : C.o2.cls = TUP) (hz1 : noFields C.o1 = true) (hz2 : noFields C.o2 = true) (hy1 : notTab C.o1 = true) (hy2 : notTab C.o2 = true)
    (hd1 : C.od.IsDictOf (strKind PW w) []) (hd2 : V.FlatPairs PyData.str [] []) (hd3 : (C.vd == sysModules) = false) (hlv : C.lv = []) (hok : okS C.S) {pl : Led} {tsr : List (Int × Int × Int)} (htr : Trip pvs pl tsr) (hpl : ∀ p ∈ pl, p ∈ op) {srcs : List Str} (hsr : StrsAre svs srcs)
    {dl : Led} {ds : List Deed} {S0 : Str} {i : Nat} (hi : IntsAre vs xs) (hx : vs.length ≤ 60) (hc0 : 0 ≤ c) (hc1 : c ≤ 100 + 10 * ((i + 1 : Nat) : Int)) (hSi : C.S.length ≤ 8 + 6 * i) (hi8 : i < 9) (hsi : srcs.length ≤ 1 + i) (hs0 : srcs[0]? = some S0) (hsl : ∀ t ∈ srcs, t.length < 900) (hti : tsr.length ≤ 1 + 2 * i) (hgd : Good srcs tsr) (hsp : spell srcs tsr = cs C.S) (hqd : Quad dvs dl ds) (hdl : ∀ p ∈ dl, p ∈ op) (hdi : ds.length ≤ i) (hch : ChnR S0 ds.reverse C.S)
    (hQ : ∀ fl m' news' h' tk', (fl = .next ∨ fl = .cont) → LawSt L bx la sa da S0 (i + 1) m' news' → Fr g L h' m' → News g L h' ((I, itR x1 x2) :: news') → (∀ p ∈ news', p.1 ≠ I) → Q fl { s with heap := h', toks := tk' }) (h3 : C.S.length < 100) (h0 : 0 ≤ C.b) (h1 : C.b ≤ C.S.length)
    (m2 : @Ne Nat C.hd C.vd) (m4 : @Ne Nat C.rd C.vd) (m11 : @Ne Nat C.rl C.lg) (m5 : @Ne Nat C.hd C.rd) (m6 : @Ne Nat rw C.vd) (m7 : @Ne Nat rw C.hd) (m8 : @Ne Nat rw C.rd) (m9 : @Ne Nat C.wr C.vr)
    (n1 : @Ne Nat bx la) (n2 : @Ne Nat sa bx) (n3 : @Ne Nat sa la) (n4 : @Ne Nat da bx) (n5 : @Ne Nat da la) (n6 : @Ne Nat da sa) (n7 : @Ne Nat pa bx) (n8 : @Ne Nat pa la) (n9 : @Ne Nat pa sa) (n10 : @Ne Nat pa da)
    (r1 : @Ne Nat bx C.rl) (r2 : @Ne Nat bx C.lg) (r3 : @Ne Nat la C.rl) (r4 : @Ne Nat la C.lg) (r5 : @Ne Nat sa C.rl) (r6 : @Ne Nat sa C.lg) (r7 : @Ne Nat pa C.rl) (r8 : @Ne Nat pa C.lg) (r9 : @Ne Nat da C.rl) (r10 : @Ne Nat da C.lg) :
    wpAny (model PW w) (callerA.deeper (lawEnv L fn0)) (execs (turnBody.drop 5) (lawEnv L fn0)) Q E s := by
  unfold lawEnv
  generalize hs : scoOf (stAt 64) = sc
  (conv at hs => lhs; whnf)
  subst hs
  generalize hb : turnBody.drop 5 = bd
  (conv at hb => lhs; whnf)
  subst hb
  (try dsimp only)
  (try k_fold)
  k_with "m nocell" => (first | exact rfl | exact dict_noCell (by assumption))
  k_with "m nof" => (first | exact allNil | (refine' allCons ?na ?nb; (case na => first | exact rfl | assumption | exact nf_cell (by assumption) | exact dict_noFields (by assumption)); (case nb => k_extra "m nof")))
  k_with "m ne" => (first | with_reducible assumption | (refine Ne.symm ?_; with_reducible assumption) | (refine' ne_of_all ?nx ?ny; (case nx => with_reducible assumption); (case ny => k_mem)) | (refine' Ne.symm (ne_of_all ?nx ?ny); (case nx => with_reducible assumption); (case ny => k_mem)) | (refine' ne_of_ne ?nx ?ny; (case nx => with_reducible assumption); (case ny => k_mem)) | (refine' Ne.symm (ne_of_ne ?nx ?ny); (case nx => with_reducible assumption); (case ny => k_mem)) | (refine' ne_cls ?na ?nb ?nc ?nd ?nf ?ng; (case na => k_asm); (case nb => k_mem); (case nc => k_mem); (case nd => k_extra "m cls"); (case nf => k_extra "m cls"); (case ng => decide)) | (refine' ne_cell ?na ?nb ?nc ?nd ?nf; (case na => k_asm); (case nb => k_mem); (case nc => k_mem); (case nd => with_reducible assumption); (case nf => k_extra "m nocell")) | (refine Ne.symm ?_; refine' ne_cell ?na ?nb ?nc ?nd ?nf; (case na => k_asm); (case nb => k_mem); (case nc => k_mem); (case nd => with_reducible assumption); (case nf => k_extra "m nocell")) | (refine neN ?_; (try dsimp only); omega))
  k_with "m offop" => (refine' off_op ?ho ?hn; (case ho => with_reducible assumption); (case hn => k_extra "m nof"))
  k_with "m kall" => (first
    | (refine' op_cls ?ka ?kb ?kc ?kd ?ke ?kf ?kg; (case ka => k_asm); (case kb => k_mem); (case kc => (intro p hp; repeat' (first | exact hp | refine List.Mem.tail _ ?_))); (case kd => assumption); (case ke => k_extra "m cls"); (case kf => decide); (case kg => first | exact rfl | exact dict_noFields (by assumption)))
    | (refine' op_cell ?ka ?kb ?kc ?kd ?ke; (case ka => k_asm); (case kb => k_mem); (case kc => (intro p hp; repeat' (first | exact hp | refine List.Mem.tail _ ?_))); (case kd => assumption); (case ke => assumption)))
  k_with "m nt" => (first | exact allNil | (refine' allCons ?na ?nb; (case na => first | exact rfl | assumption | exact nt_dict (by assumption) | exact nt_cell (by assumption)); (case nb => k_extra "m nt")))
  k_with "m lam" => (first
    | (refine' lam1 (ps := ps) (op := op) ?F ?T ?C ?N ?tk ?sp ?hnt ?hop ?hA ?hdef ?hcl ?_; (case F => k_asm); (case T => k_asm); (case C => assumption); (case N => k_asm); (case tk => k_extra "m take"); (case sp => repeat' (first | exact SplitT.nil | refine' SplitT.cons ?_)); (case hnt => k_extra "m nt"); (case hop => assumption); (case hA => assumption); (case hdef => exact rfl); (case hcl => exact rfl)
       k_whole
       intro f1 c1 ctv1 h' tk' ps1 op1 F' N' hop1 hsub1 hB1 lf1
       (try dsimp only [List.cons_append, List.nil_append] at N')
       (try dsimp only)
       (try k_fold))
    | (refine' lam2 ?F ?T ?C ?N ?tk ?sp ?hnt ?hop ?hA ?hdef ?hcl ?_; (case hA => assumption); (case hop => assumption); (case F => k_asm); (case T => k_asm); (case C => assumption); (case N => k_asm); (case tk => k_extra "m take"); (case sp => repeat' (first | exact SplitT.nil | refine' SplitT.cons ?_)); (case hnt => k_extra "m nt"); (case hdef => exact rfl); (case hcl => exact rfl)
       k_whole
       intro f2 c2 ctv2 h' tk' ps2 op2 F' N' hop2 hsub2 hB2 lf2
       (try dsimp only [List.cons_append, List.nil_append] at N')
       (try dsimp only)
       (try k_fold)))
  k_with "m stmt" => (with_reducible show wpAny _ _ (execs (Stmt.Assign [Expr.Name (Str.ofString "pieces") _] _ _ :: _) _) _ _ _; refine stopHere ?_)
  k_with "m neqi" => (refine' int_ne_of ?e ?_; (case e => exact rfl); k_whole)
  k_with "m neq" => (refine' str_ne_of ?e ?_; (case e => exact rfl); k_whole)
  k_with "m neqt" => (refine' tup3_ne_of ?N ?ma ?mb ?e1 ?e2 ?e3 ?o1 ?o2 ?o3 ?hu ?_; (case N => k_asm); (case ma => k_mem); (case mb => k_mem); (case e1 => exact rfl); (case e2 => exact (mid_law (by assumption) (by assumption) (by assumption) (by assumption)).symm); (case e3 => exact rfl); (case o1 => exact hok.to (by omega) (by omega)); (case o2 => exact hok.mid (by omega) (by omega) (by omega)); (case o3 => exact hok.from (by omega) (by omega)); (case hu => exact Nat.le_of_ble_eq_true rfl); k_whole)
  k_with "m call" => (first
    | (obtain ⟨kk1, kk2, hps, hm1, hi1, hm2, hi2⟩ : TabF _ _ _ _ := by assumption
       refine' use_specG ?B ?F ?X ?T ?N ?hA ?hf ?hk ?hh ?hd ?hu (rep_spec (C := C) hCH ?e1 ?e2 hi1 hi2 d4 d3 hform hl1 hl2 hk1 hk2 hcl1 hcl2 hd1 hd2 hd3 hlv h3 h0 h1 (Int.le_refl 0) (by decide) m2 m4 m11 m5 m6 m7 m8 m9) ?tk ?off ?hext ?hnf ?_
       k_extra "m use"
       (case hnf => k_extra "m nof")
       (case hext => (refine' List.forall_mem_cons.mpr ⟨⟨?x1, hi1⟩, List.forall_mem_cons.mpr ⟨⟨?x2, hi2⟩, List.forall_mem_nil _⟩⟩; (case x1 => repeat' (first | exact hm1 | refine List.Mem.tail _ ?_)); (case x2 => repeat' (first | exact hm2 | refine List.Mem.tail _ ?_))))
       (case e1 => exact rfl); (case e2 => exact rfl)
       k_whole
       rintro _ h' tk' _ F' N' hpost hO
       clear hO
       refine stopHere ?_)
    | (refine' use_spec ?B ?F ?X ?T ?N ?hA ?hf ?hk ?hh ?hd ?hu (put_spec ?g1 ?g2 ?g3) ?tk ?off ?_
       k_extra "m use"
       (case g1 => omega); (case g2 => exact Nat.lt_of_le_of_lt (Txt.length_slice_le _ _ _) (by omega)); (case g3 => exact Nat.lt_of_le_of_lt (Txt.length_slice_le _ _ _) (by omega))
       k_whole
       rintro _ h' tk' _ F' N' ⟨v, tv, rfl, rfl, hv⟩ hO
       clear hO
       (have hv9 : v = putT form _ _ := hv)
       (have hvl : v.length ≤ 2 * C.S.length + 6 := by (rw [hv]; exact put_len2 (Txt.length_slice_le _ _ _) (Txt.length_slice_le _ _ _)))
       clear hv
       subst hv9
       (try dsimp only [List.cons_append, List.nil_append] at N')
       (try dsimp only)
       (try k_fold))
    | (refine' use_spec ?B ?F ?X ?T ?N ?hA ?hf ?hk ?hh ?hd ?hu (three_pieces_spec ?g1) ?tk ?off ?_
       k_extra "m use"
       (case g1 => omega)
       k_whole
       rintro _ h' tk' _ F' N' ⟨ra3, t31, t32, t33, rfl, rfl, hl31, hl32, hl33⟩ hO
       clear hO
       (try dsimp only [List.cons_append, List.nil_append] at N')
       (try dsimp only)
       (try k_fold))
    | (refine' use_spec ?B ?F ?X ?T ?N ?hA ?hf ?hk ?hh ?hd ?hu (spliced_spec ?g1 ?g2) ?tk ?off ?_
       k_extra "m use"
       (case g1 => omega); (case g2 => omega)
       k_whole
       rintro _ h' tk' _ F' N' ⟨t91, rfl, rfl⟩ hO
       clear hO
       (try dsimp only [List.cons_append, List.nil_append] at N')
       (try dsimp only)
       (try k_fold))
    | (refine stopHere ?_))
  k_steps
  unfold Stop
  rcases hpost with ⟨n2', tn2', hr2⟩ | ⟨mm2, ee2, n2', tn2', t2, tx2, ty2, od2, hr2, hb4, hb5, hb6, hz3, hz4⟩
  · rcases hfv with ⟨hv1, rfl⟩ | ⟨m, e, fa, t, x, hv1, -, -, -, rfl, -⟩
    · dsimp only [List.cons_append, List.nil_append] at N'
      (try dsimp only)
      (try k_fold)
      k_steps
      rename News _ _ _ _ => N9
      rename Fr _ _ _ _ => F9
      (try k_unfold)
      (try dsimp only)
      have hN : News g L _ ((I, itR x1 x2) :: lawLd L bx la sa pa da oB oS oF oP c tc vs k j svs ks pvs kp dvs kd ps2 op2) := newsSub2 N9 (by k_extra "m sub")
      exact hQ _ _ _ _ _ (.inr rfl) ⟨C.S, ts, c, tc, vs, xs, k, j, svs, srcs, ks, pa, pvs, pl, tsr, kp, dvs, dl, ds, kd, oB, oS, oF, oP, _, _, ps2, op2, _, chain_ofC _ (by exact .cons (by rfl) (.cons (by rfl) (.cons (by rfl) (.nil)))), rfl, hop2, hB2.A, d1, d2, d3, d4, hi, hx, hc0, hc1, hok, by omega, hsr, by omega, hs0, hsl, htr, fun p hp => hsub2 _ (hsub1 _ (hpl p hp)), by omega, hgd, hsp, hqd, fun p hp => hsub2 _ (hsub1 _ (hdl p hp)), by omega, hch, n7, n8, n9, n10⟩ F9 hN (off_itr hN (law_off d1 d2 d3 d4 hop2))
    · rw [hr2] at hv1; cases hv1
  · rcases hfv with ⟨hv1, rfl⟩ | ⟨m, e, fa, t, x, hv1, -, -, -, rfl, hfa⟩
    · rw [hr2] at hv1; cases hv1
    · rw [hr2] at hv1
      cases hv1
      dsimp only [List.cons_append, List.nil_append] at N'
      have N9 := newsSub2 (post := (fa, tup [.int C.b tb, .int ee2 t, x]) :: _) N' (fun p hp => by
        cases hp with
        | head => repeat' (first | exact hsub2 _ (hsub1 _ hfa) | refine List.Mem.tail _ ?_)
        | tail _ hp => exact hp)
      clear N'
      (try dsimp only)
      (try k_fold)
      k_steps
      unfold Stop
      rename News _ _ _ _ => N10
      rename Fr _ _ _ _ => F10
      (try k_unfold)
      have hN : News g L _ ((I, itR x1 x2) :: lawLd L bx la sa pa da oB oS oF oP c tc vs k j svs ks pvs kp dvs kd ps2 op2) := newsSub2 N10 (by k_extra "m sub")
      have hpl3 : (putT form (Txt.slice C.S (some C.b) (some mm2)) (Txt.slice C.S (some mm2) (some ee2))).length ≤ 2 * C.S.length + 6 := put_len2 (Txt.length_slice_le _ _ _) (Txt.length_slice_le _ _ _)
      have hlen9 : ∀ q ∈ tsr, 0 ≤ q.2.1 ∧ q.2.1 ≤ q.2.2 ∧ q.2.2 < 1000 := fun q hq => by
        have hg := hgd q hq
        have hm9 : (srcs.getD q.1.toNat ⟨#[]⟩).length < 900 := by
          have hlt : q.1.toNat < srcs.length := by omega
          rw [List.getD_eq_getElem?_getD, List.getElem?_eq_getElem hlt]
          exact hsl _ (List.getElem_mem hlt)
        omega
      refine' law_turn3 B X T (fr_chainC F10 [(Str.ofString "subject", .str C.S ts), (Str.ofString "pieces", .ref pa), (Str.ofString "deeds", .ref da), (Str.ofString "later", .str (splT C.S (putT form (Txt.slice C.S (some C.b) (some mm2)) (Txt.slice C.S (some mm2) (some ee2))) C.b ee2) t2), (Str.ofString "begin", .int C.b tb), (Str.ofString "end", .int ee2 t), (Str.ofString "text", .str (putT form (Txt.slice C.S (some C.b) (some mm2)) (Txt.slice C.S (some mm2) (some ee2))) tv)] ?w1) hN hop2 hCH d1 d2 d3 d4 htr ?w2 ?w3 hsr ?w4 ?w5 hgd hsp hsl hlen9 h3 ?w7 hB2.A hi hx hc0 hc1 hok ?w8 ?w9 hSi hi8 hsi hs0 hti hqd ?wa hdi hch ?wb h0 ?wc hb6 n1 n2 n3 n4 n5 n6 n7 n8 n9 n10
      case w1 => (exact .cons (by rfl) (.cons (by rfl) (.cons (by rfl) (.cons (by rfl) (.cons (by rfl) (.cons (by rfl) (.cons (by rfl) (.nil))))))))
      case w2 => exact fun p hp => hsub2 _ (hsub1 _ (hpl p hp))
      case w3 => (rw [Trip.len htr]; omega)
      case w4 => (rw [StrsAre.length_eq hsr]; omega)
      case w5 => (rw [Quad.len hqd]; omega)
      case w7 => omega
      case w8 => exact okS_put (hok.mid h0 hb4 (by omega)) (hok.mid (by omega) hb5 hb6)
      case w9 => exact put_len3 h0 hb4 hb5 hb6
      case wa => exact fun p hp => hsub2 _ (hsub1 _ (hdl p hp))
      case wb => exact fun m' news' h' tk' a1 a2 a3 a4 => hQ _ _ _ _ _ (.inl rfl) a1 a2 a3 a4
      case wc => omega
end

section
theorem regMBk : (fun (_ : OpenLaw) (_ : Params → Frag) => True) PySem.Challenge.rw_sj0197_01 KF := by
  k_with_none
  k_with "m enter" => (
    (case k1 => exact B); (case k2 => exact X); (case k3 => exact T); (case k4 => exact st); (case k5 => exact sz); (case k6 => exact N)
    (case k7 => k_dflt k_is)
    (case hb => (conv => lhs; whnf))
    (case hs => (conv => lhs; whnf))
    (case k8 => k_dflt k_is)
    (case k9 => decide)
    (case k10 => exact BindsTo.of_eq rfl)
    (case k11 => exact locs rfl)
    (case c1 => exact rfl); (case c2 => exact rfl); (case c3 => exact rfl); (case c4 => decide)
    clear st sz N
    intro L h F N'
    (try dsimp only)
    (try k_fold))
  k_with "m end" => ((try k_unfold); (try dsimp only); refine' hret _ _ _ ?e1 ?e2 ?e3 ?e4; (case e1 => exact Fr.keep (by k_asm)); (case e4 => k_extra "m kept"))
  k_with "m kept" => (first | exact kept_nil | (refine' kept_tup ?ka ?kb ?kc; (case ka => k_asm); (case kb => k_mem); (case kc => k_extra "m kept")) | (refine' kept_not ?kd ?ke ?kf; (case kd => k_extra "m cls"); (case ke => decide); (case kf => k_extra "m kept")))
  k_with "m sub" => (first | exact subNil | exact subRefl | (refine' subStep ?su; (case su => k_extra "m sub")) | (refine' subUpS ?sk ?su; (case sk => ((fail_if_success (refine skipOf ?_; k_mem)); exact trivial)); (case su => k_extra "m sub")) | (refine' subCons ?sa ?sb; (case sa => k_mem); (case sb => k_extra "m sub")))
  k_with "m same" => (
    intro z h2 h3
    simp only [List.forall_mem_cons, List.not_mem_nil, false_implies, implies_true, and_true, ne_eq] at h2
    simp [kstB, h2])
  k_with "m same2" => (
    intro z h2 h3
    dsimp only [isPs, psOf] at h2
    simp only [List.forall_mem_cons, List.not_mem_nil, false_implies, implies_true, and_true, ne_eq] at h2
    simp only [List.contains_cons, List.contains_nil, Bool.or_false, Bool.or_eq_false_iff, beq_eq_false_iff_ne, ne_eq] at h3
    simp [kstB, h2, h3])
  k_with "m same3" => (
    intro z h2 h3
    simp only [List.forall_mem_cons, List.not_mem_nil, false_implies, implies_true, and_true, ne_eq] at h2
    simp only [List.contains_cons, List.contains_nil, Bool.or_false, beq_eq_false_iff_ne, ne_eq] at h3
    simp [kstB, h2, h3])
  k_with "m same4" => (
    intro z h2 h3
    simp only [List.forall_mem_cons, List.not_mem_nil, false_implies, implies_true, and_true, ne_eq] at h2
    simp only [List.contains_cons, List.contains_nil, Bool.or_false, Bool.or_eq_false_iff, beq_eq_false_iff_ne, ne_eq] at h3
    simp [kstB, h2, h3])
  k_with "m led" => (dsimp only [isLed, osLed, fxL, vD, hD, List.cons_append, List.nil_append]; k_extra "m sub")
  k_with "m ps" => (dsimp only [isPs, psOf]; kst_all)
  k_with "m all" => exact newsOut (by k_asm)
  k_with "m outA" => exact newsSub (by k_asm) (subApp (by k_extra "m sub"))
  k_with "m out" => exact newsSub (by k_asm) (by k_extra "m sub")
  k_with "m t1" => (first | with_reducible exact Take1.head | (refine' Take1.tail ?mt; (case mt => k_extra "m t1")))
  k_with "m take" => (first | exact TakeL.nil | (refine' TakeL.cons ?ma ?mb; (case ma => k_extra "m t1"); (case mb => k_extra "m take")))
  k_with "m cls" => (first | assumption | exact dict_cls (by assumption) | (conv => lhs; whnf))
  k_with "m nocell" => exact rfl
  k_with "m ne" => (first | assumption | (refine Ne.symm ?_; assumption) | (refine' ne_cls ?na ?nb ?nc ?nd ?nf ?ng; (case na => k_asm); (case nb => k_mem); (case nc => k_mem); (case nd => k_extra "m cls"); (case nf => k_extra "m cls"); (case ng => decide)) | (refine' ne_cell ?na ?nb ?nc ?nd ?nf; (case na => k_asm); (case nb => k_mem); (case nc => k_mem); (case nd => assumption); (case nf => k_extra "m nocell")) | (refine Ne.symm ?_; refine' ne_cell ?na ?nb ?nc ?nd ?nf; (case na => k_asm); (case nb => k_mem); (case nc => k_mem); (case nd => assumption); (case nf => k_extra "m nocell")) | (refine neN ?_; (try dsimp only); omega))
  k_with "m ne1" => (first | exact ne1_nil | (refine' ne1_tup ?nt ?nu; (case nt => first | exact rfl | assumption); (case nu => k_extra "m ne1")) | (refine' ne1_cls ?n1 ?n2 ?n3 ?n4; (case n1 => k_extra "m cls"); (case n2 => k_extra "m cls"); (case n3 => decide); (case n4 => k_extra "m ne1")) | (refine' ne1_cell ?n1 ?n2 ?n4; (case n1 => assumption); (case n2 => k_extra "m nocell"); (case n4 => k_extra "m ne1")) | (refine' ne1_cons ?nv ?nw; (case nv => k_extra "m ne"); (case nw => k_extra "m ne1")))
  k_with "m off" => (first | exact off_nil | k_extra "m offop" | (refine' off_consT ?oc ?ob; (case oc => first | exact rfl | assumption); (case ob => k_extra "m off")) | (refine' off_cons ?oa ?ob; (case oa => k_extra "m ne1"); (case ob => k_extra "m off")))
  k_with "m use" => (
    (case hA => exact rfl); (case hf => exact rfl); (case hk => exact rfl); (case hh => exact rfl)
    (case B => k_asm); (case F => k_asm); (case X => k_asm); (case T => k_asm); (case N => k_asm)
    (case hd => exact Nat.le_of_ble_eq_true rfl); (case hu => exact Nat.le_of_ble_eq_true rfl)
    (case tk => k_extra "m take")
    (case off => k_extra "m off"))
  k_with "call ref" => (k_here; k_dflt (k_extra "m call"))
  k_with "compareOp NotIn str ref" => (k_here; k_dflt (refine' notin_tuple_strs ?k1 ?k2 ?_; (case k1 => exact tupK (by k_in) (by k_is)); (case k2 => kde_strs); k_whole))
  k_with "compareOp In str ref" => (k_here; k_dflt (refine' in_tuple_strs ?k1 ?k2 ?_; (case k1 => exact tupK (by k_in) (by k_is)); (case k2 => kde_strs); k_whole))
  k_with "setItem ref str" => (k_here; k_dflt (refine' setItem_K PyProof.V.same_str (strKind_is _ _ _ _) ?v ?F ?N ?U ?d ?f ?_ ?z; (case F => k_asm); (case N => k_asm); (case U => k_updF); (case d => k_asm); (case f => k_asm); (case z => exact line_of_lenLe (n := 5) (by assumption) (by decide)); (case v => k_flat)); intro h' o' F' N' hd' hf'; (try dsimp only at N'); (try k_sweep))
  k_with "compareOp Eq ref str" => (k_here; k_dflt (refine' eq_tup_str ?k1 ?k2 ?k3 ?_; (case k1 => k_asm); (case k2 => k_mem); (case k3 => exact Nat.le_of_ble_eq_true rfl); k_whole))
  k_with "CompSrc" => (k_here; k_dflt (k_extra "m src"))
  k_with "CompEnd" => (k_here; k_extra "m compend")
  k_with "call builtin:sorted" => (k_here; k_dflt (k_extra "m sorted"))
  k_with "compareOp NotEq str str" => (k_here; k_extra "m neq")
  k_with "compareOp Eq str str" => (k_here; k_extra "m eqs")
  k_with "call builtin:str.join" => (k_here; k_dflt (k_extra "m join"))
  k_with "eval Lambda" => (k_here; k_dflt (k_extra "m lam"))
  k_with "compareOp NotEq int int" => (k_here; k_dflt (k_extra "m neqi"))
  k_with "compareOp NotEq ref ref" => (k_here; k_dflt (k_extra "m neqt"))
  k_with "call builtin:len" => (k_here; k_dflt (k_extra "m len"))
  k_with "binaryOp Add ref ref" => (k_here; k_dflt (k_extra "m addl"))
  k_with "eval ListComp" => (k_here; k_extra "m comp")
  k_with "subscriptTail" => (k_here; k_dflt (k_extra "m item"))
  k_with "execs cons" => (k_here; k_extra "m stmt")
  trivial
variable {fn0 : Addr}
local macro_rules | `(tactic| k_lt $h:ident) => `(tactic| skip)
theorem turn_none {g h : Heap} {L : Addr} {a1 a2 a3 a4 a5 a6 a7 a8 a9 a10 a11 a12 a13 a14 a15 a16 a17 a18 a19 a20 a21 a22 a23 a24 a25 a26 : Addr × Obj} {r : Led} (N : News g L h (a1 :: a2 :: a3 :: a4 :: a5 :: a6 :: a7 :: a8 :: a9 :: a10 :: a11 :: a12 :: a13 :: a14 :: a15 :: a16 :: a17 :: a18 :: a19 :: a20 :: a21 :: a22 :: a23 :: a24 :: a25 :: a26 :: r)) : News g L h (a3 :: a4 :: a5 :: a6 :: a7 :: a10 :: a11 :: a1 :: a2 :: a12 :: a13 :: a9 :: a16 :: a17 :: a18 :: a19 :: a20 :: a21 :: a22 :: a23 :: a14 :: a15 :: a24 :: a25 :: a26 :: r) :=
  newsSub2 N (by k_extra "m sub")
theorem turn_some {g h : Heap} {L : Addr} {a0 a1 a2 a3 a4 a5 a6 a7 a8 a9 a10 a11 a12 a13 a14 a15 a16 a17 a18 a19 a20 a21 a22 a23 a24 a25 a26 : Addr × Obj} {r : Led} (N : News g L h (a0 :: a1 :: a2 :: a3 :: a4 :: a5 :: a6 :: a7 :: a8 :: a9 :: a10 :: a11 :: a12 :: a13 :: a14 :: a15 :: a16 :: a17 :: a18 :: a19 :: a20 :: a21 :: a22 :: a23 :: a24 :: a25 :: a26 :: r)) : News g L h (a3 :: a4 :: a5 :: a6 :: a7 :: a10 :: a11 :: a1 :: a2 :: a12 :: a13 :: a9 :: a16 :: a17 :: a18 :: a19 :: a20 :: a21 :: a22 :: a23 :: a14 :: a15 :: a24 :: a25 :: a26 :: a0 :: r) :=
  newsSub2 N (by k_extra "m sub")
theorem TabA.cons {ps : Array Value} {op : Led} {x : Addr × Obj} (h : TabA ps op) : TabA ps (x :: op) := by
  rcases h with e | ⟨c1, o1, c2, o2, e, a1, a2, a3, a4⟩
  · exact .inl e
  · exact .inr ⟨c1, o1, c2, o2, e, .tail _ a1, a2, .tail _ a3, a4⟩
theorem law_turn {w : World} {lo : List Str} {mean mg mb} {base g : Heap} {s : Shared} {Q : Flow → Shared → Prop} {E : Value → Shared → Prop} {L bx la sa da I : Addr} {x1 x2 iv : Int} {ti : Tok} {S0 : Str} {i : Nat} {m : Str → Option Value} {news : Led}
    (B : Below callerA base [] g) (X : (KF w.params).In g) (T : Top topProg lo mean mg mb g)
    (F : Fr g L s.heap (fun y => if y = Str.ofString "turn" then some (.int iv ti) else m y))
    (N : News g L s.heap ((I, itR x1 x2) :: news)) (hLS : LawSt L bx la sa da S0 i m news) (hCH : CodeHd g 476 474) (hi8 : i < 9)
    (hQ : ∀ fl m' news' h' tk', (fl = .next ∨ fl = .cont) → LawSt L bx la sa da S0 (i + 1) m' news' → Fr g L h' m' → News g L h' ((I, itR x1 x2) :: news') → (∀ p ∈ news', p.1 ≠ I) → Q fl { s with heap := h', toks := tk' })
    (n1 : @Ne Nat bx la) (n2 : @Ne Nat sa bx) (n3 : @Ne Nat sa la) (n4 : @Ne Nat da bx) (n5 : @Ne Nat da la) (n6 : @Ne Nat da sa) :
    wpAny (model PW w) (callerA.deeper (lawEnv L fn0)) (execs turnBody (lawEnv L fn0)) Q E s := by
  obtain ⟨S, ts, c, tc, vs, xs, k, j, svs, srcs, ks, pa, pvs, pl, tsr, kp, dvs, dl, ds, kd, oB, oS, oF, oP, vF, vP, ps, op, u, rfl, rfl, hop, hTA, d1, d2, d3, d4, hi, hx, hc0, hc1, hokS, hS8, hsr, hsi, hs0, hsl, htr, hpl, hti, hgd, hsp, hqd, hdl, hdi, hch, n7, n8, n9, n10⟩ := hLS
  have hS : S.length < 100 := by omega
  unfold lawEnv
  generalize hs : scoOf (stAt 64) = sc
  (conv at hs => lhs; whnf)
  subst hs
  generalize hb : turnBody = bd
  (conv at hb => lhs; whnf)
  subst hb
  (try dsimp only)
  (try k_fold)
  k_with "m nocell" => (first | exact rfl | exact dict_noCell (by assumption))
  k_with "m nof" => (first | exact allNil | (refine' allCons ?na ?nb; (case na => first | exact rfl | exact dict_noFields (by assumption)); (case nb => k_extra "m nof")))
  k_with "m ne" => (first | with_reducible assumption | (refine Ne.symm ?_; with_reducible assumption) | (refine' ne_of_all ?nx ?ny; (case nx => with_reducible assumption); (case ny => k_mem)) | (refine' Ne.symm (ne_of_all ?nx ?ny); (case nx => with_reducible assumption); (case ny => k_mem)) | (refine' ne_cls ?na ?nb ?nc ?nd ?nf ?ng; (case na => k_asm); (case nb => k_mem); (case nc => k_mem); (case nd => k_extra "m cls"); (case nf => k_extra "m cls"); (case ng => decide)) | (refine' ne_cell ?na ?nb ?nc ?nd ?nf; (case na => k_asm); (case nb => k_mem); (case nc => k_mem); (case nd => with_reducible assumption); (case nf => k_extra "m nocell")) | (refine Ne.symm ?_; refine' ne_cell ?na ?nb ?nc ?nd ?nf; (case na => k_asm); (case nb => k_mem); (case nc => k_mem); (case nd => with_reducible assumption); (case nf => k_extra "m nocell")) | (refine neN ?_; (try dsimp only); omega))
  k_with "m offop" => (refine' off_op ?ho ?hn; (case ho => with_reducible assumption); (case hn => k_extra "m nof"))
  k_with "m kall" => (first
    | (refine' op_cls ?ka ?kb ?kc ?kd ?ke ?kf ?kg; (case ka => k_asm); (case kb => k_mem); (case kc => (intro p hp; repeat' (first | exact hp | refine List.Mem.tail _ ?_))); (case kd => assumption); (case ke => k_extra "m cls"); (case kf => decide); (case kg => first | exact rfl | exact dict_noFields (by assumption)))
    | (refine' op_cell ?ka ?kb ?kc ?kd ?ke; (case ka => k_asm); (case kb => k_mem); (case kc => (intro p hp; repeat' (first | exact hp | refine List.Mem.tail _ ?_))); (case kd => assumption); (case ke => assumption)))
  k_with "m nt" => (first | exact allNil | (refine' allCons ?na ?nb; (case na => first | exact rfl | exact nt_dict (by assumption) | exact nt_cell (by assumption)); (case nb => k_extra "m nt")))
  k_with "m stmt" => (with_reducible show wpAny _ _ (execs (Stmt.Assign [Expr.Name (Str.ofString "later") _] _ _ :: _) _) _ _ _; refine stopHere ?_)
  k_with "m call" => (first
    | (refine' use_spec ?B ?F ?X ?T ?N ?hA ?hf ?hk ?hh ?hd ?hu (take_spec ?p0 ?p1 ?p2 ?p3 ?p4 ?p5 ?p6) ?tk ?off ?_
       k_extra "m use"
       (case p0 => assumption); (case p1 => first | decide | omega); (case p2 => first | decide | omega); (case p3 => omega); (case p4 => omega); (case p5 => assumption); (case p6 => assumption)
       k_whole
       rintro _ h' tk' _ F' N' ⟨v1, t1, tc1, vs1, xs1, k1, j1, hv1, hv2, hi1, hx1⟩ hO
       clear hO
       (try dsimp only [List.cons_append, List.nil_append] at N')
       (try dsimp only)
       (try k_fold))
    | (refine' use_spec ?B ?F ?X ?T ?N ?hA ?hf ?hk ?hh ?hd ?hu (leaf_spec ?p0 ?p3 ?p4 ?p5 ?p6) ?tk ?off ?_
       k_extra "m use"
       (case p0 => assumption); (case p3 => omega); (case p4 => omega); (case p5 => assumption); (case p6 => assumption)
       k_whole
       rintro _ h' tk' _ F' N' ⟨ra, ol, lf, tc1, vs1, xs1, k1, j1, hlo, hlk, hlc, hi1, hx1⟩ hO
       clear hO hlc
       obtain ⟨ql, hql⟩ := leafTup hlo
       subst hql
       (try dsimp only [List.cons_append, List.nil_append] at N')
       (try dsimp only)
       (try k_fold))
    | (refine' new_ref ?B ?X ?T ?F ?N ?_; (case B => k_asm); (case X => k_asm); (case T => k_asm); (case F => k_asm); (case N => k_asm)
       k_whole
       intro x' dx' h' tk' j1 j2 j3 F' N' l1' l2'
       (try dsimp only)
       (try k_fold))
    | (refine' new_host ?B ?X ?T ?F ?N ?_; (case B => k_asm); (case X => k_asm); (case T => k_asm); (case F => k_asm); (case N => k_asm)
       k_whole
       intro x' dx' lg' h' tk' k1 k2 k3 k4 k5 k6 tw tn F' N' l1' l2' l3'
       (try dsimp only)
       (try k_fold))
    | (refine' use_spec ?B ?F ?X ?T ?N ?hA ?hf ?hk ?hh ?hd ?hu (match_spec (C := ⟨_, _, _, _, _, _, _, _, _, _, _, _, _, _, _, _, _, _, _, _, _, _, _, _, _, _, _, _, _, _, _, _, _, _, _, _, _⟩) ?q1 ?q2 ?q3 ?q4 ?q5 ?q6 ?q7 ?q8 ?q9 ?q10 ?q11 ?q12 ?q13 ?q14 ?q15 ?q16 ?q17 ?q18 ?q19 ?q20) ?tk ?off ?_
       (case hA => exact rfl); (case hf => exact rfl); (case hk => exact rfl); (case hh => exact rfl)
       (case B => k_asm); (case F => k_asm); (case X => k_asm); (case T => k_asm); (case N => k_asm)
       (case hd => exact Nat.le_of_ble_eq_true rfl); (case hu => exact Nat.le_of_ble_eq_true rfl)
       (case tk => (dsimp only; k_extra "m take"))
       (case off => (dsimp only; k_extra "m off"))
       (case q1 => (dsimp only; assumption)); (case q2 => (dsimp only; assumption)); (case q3 => assumption); (case q4 => assumption); (case q5 => exact rfl); (case q6 => exact rfl)
       (case q7 => (dsimp only; assumption)); (case q8 => assumption); (case q9 => (dsimp only; assumption)); (case q10 => exact Nat.zero_le _); (case q11 => exact Nat.le_of_ble_eq_true rfl); (case q12 => (dsimp only; assumption)); (case q13 => (dsimp only; assumption))
       (case q14 => (dsimp only; omega)); (case q15 => decide); (case q16 => decide)
       (case q17 => (dsimp only; k_extra "m ne")); (case q18 => (dsimp only; k_extra "m ne")); (case q19 => (dsimp only; k_extra "m ne")); (case q20 => (dsimp only; k_extra "m ne"))
       k_whole
       rintro _ h' tk' _ F' N' (⟨n', tn', hr⟩ | ⟨mm, ee, n', tn', tt, tx, ty, fa, fl, pr, kk, od', lv', ln', hr, hb1, hb2, hb3, hq1, hq2, hq3, ha1, ha2⟩) hO
       all_goals (
         clear hO
         (try dsimp only [List.cons_append, List.nil_append] at N')
         (first | (clear hq1 hq2 hq3 ha1 ha2; replace N' := drop_some N'; replace N' := turn_some N') | (replace N' := drop_none N'; replace N' := turn_none N'))
         (try dsimp only at N')
         (try dsimp only)
         (try k_fold)))
    | (refine stopHere ?_))
  k_steps
  · unfold Stop
    rename Fr _ _ _ _ => F'
    rename News _ _ _ _ => N'
    refine' law_turn2 (C := ⟨_, _, _, _, _, _, _, _, _, _, _, _, _, _, _, _, _, _, _, _, _, _, _, _, _, _, _, _, _, _, _, _, _, _, _, _, _⟩) B X T (fr_chainC F' [(Str.ofString "found", .none), (Str.ofString "node", _), (Str.ofString "host", _), (Str.ofString "subject", .str S ts), (Str.ofString "pieces", .ref pa), (Str.ofString "deeds", .ref da)] ?w1) N' hop hTA hCH d1 d2 ?d3 ?d4 ?hfv ⟨hv1, hv2⟩ ?hl1 ?hl2 ?hk1 ?hk2 rfl rfl rfl rfl rfl rfl ?hd1 ?hd2 ?hd3 rfl hokS htr hpl hsr hi1 hx1 ?hc0 ?hc1 hS8 hi8 hsi hs0 hsl hti hgd hsp hqd hdl hdi hch hQ hS ?h0 ?h1 ?m2 ?m4 ?m11 ?m5 ?m6 ?m7 ?m8 ?m9 n1 n2 n3 n4 n5 n6 n7 n8 n9 n10 ?r1 ?r2 ?r3 ?r4 ?r5 ?r6 ?r7 ?r8 ?r9 ?r10
    case w1 => (exact .cons (by rfl) (.cons (by rfl) (.cons (by rfl) (.cons (by rfl) (.cons (by rfl) (.cons (by rfl) (.nil)))))))
    case d3 => assumption
    case d4 => assumption
    case hl1 => assumption
    case hl2 => assumption
    case hk1 => assumption
    case hk2 => assumption
    case hfv => exact .inl ⟨hr, rfl⟩
    case hd1 => assumption
    case hd2 => assumption
    case hd3 => assumption
    case hc0 => omega
    case hc1 => omega
    case h0 => assumption
    case h1 => (dsimp only; omega)
    case m2 => (dsimp only; k_extra "m ne")
    case m4 => (dsimp only; k_extra "m ne")
    case m11 => (dsimp only; k_extra "m ne")
    case m5 => (dsimp only; k_extra "m ne")
    case m6 => (dsimp only; k_extra "m ne")
    case m7 => (dsimp only; k_extra "m ne")
    case m8 => (dsimp only; k_extra "m ne")
    case m9 => (dsimp only; k_extra "m ne")
    case r1 => (dsimp only; k_extra "m ne")
    case r2 => (dsimp only; k_extra "m ne")
    case r3 => (dsimp only; k_extra "m ne")
    case r4 => (dsimp only; k_extra "m ne")
    case r5 => (dsimp only; k_extra "m ne")
    case r6 => (dsimp only; k_extra "m ne")
    case r7 => (dsimp only; k_extra "m ne")
    case r8 => (dsimp only; k_extra "m ne")
    case r9 => (dsimp only; k_extra "m ne")
    case r10 => (dsimp only; k_extra "m ne")
  · unfold Stop
    rename Fr _ _ _ _ => F'
    rename News _ _ _ _ => N'
    refine' law_turn2 (C := ⟨_, _, _, _, _, _, _, _, _, _, _, _, _, _, _, _, _, _, _, _, _, _, _, _, _, _, _, _, _, _, _, _, _, _, _, _, _⟩) B X T (fr_chainC F' [(Str.ofString "found", .ref fa), (Str.ofString "node", _), (Str.ofString "host", _), (Str.ofString "subject", .str S ts), (Str.ofString "pieces", .ref pa), (Str.ofString "deeds", .ref da)] ?w1) N' (.cons (.inl ⟨_, rfl⟩) hop) hTA.cons hCH d1 d2 ?d3 ?d4 ?hfv ⟨hv1, hv2⟩ ?hl1 ?hl2 ?hk1 ?hk2 rfl rfl rfl rfl rfl rfl ?hd1 ?hd2 ?hd3 rfl hokS htr (fun p hp => .tail _ (hpl p hp)) hsr hi1 hx1 ?hc0 ?hc1 hS8 hi8 hsi hs0 hsl hti hgd hsp hqd (fun p hp => .tail _ (hdl p hp)) hdi hch hQ hS ?h0 ?h1 ?m2 ?m4 ?m11 ?m5 ?m6 ?m7 ?m8 ?m9 n1 n2 n3 n4 n5 n6 n7 n8 n9 n10 ?r1 ?r2 ?r3 ?r4 ?r5 ?r6 ?r7 ?r8 ?r9 ?r10
    case w1 => (exact .cons (by rfl) (.cons (by rfl) (.cons (by rfl) (.cons (by rfl) (.cons (by rfl) (.cons (by rfl) (.nil)))))))
    case d3 => assumption
    case d4 => assumption
    case hl1 => assumption
    case hl2 => assumption
    case hk1 => assumption
    case hk2 => assumption
    case hfv => exact .inr ⟨mm, ee, fa, _, _, hr, hb1, hb2, hb3, rfl, .head _⟩
    case hd1 => assumption
    case hd2 => assumption
    case hd3 => assumption
    case hc0 => omega
    case hc1 => omega
    case h0 => assumption
    case h1 => (dsimp only; omega)
    case m2 => (dsimp only; k_extra "m ne")
    case m4 => (dsimp only; k_extra "m ne")
    case m11 => (dsimp only; k_extra "m ne")
    case m5 => (dsimp only; k_extra "m ne")
    case m6 => (dsimp only; k_extra "m ne")
    case m7 => (dsimp only; k_extra "m ne")
    case m8 => (dsimp only; k_extra "m ne")
    case m9 => (dsimp only; k_extra "m ne")
    case r1 => (dsimp only; k_extra "m ne")
    case r2 => (dsimp only; k_extra "m ne")
    case r3 => (dsimp only; k_extra "m ne")
    case r4 => (dsimp only; k_extra "m ne")
    case r5 => (dsimp only; k_extra "m ne")
    case r6 => (dsimp only; k_extra "m ne")
    case r7 => (dsimp only; k_extra "m ne")
    case r8 => (dsimp only; k_extra "m ne")
    case r9 => (dsimp only; k_extra "m ne")
    case r10 => (dsimp only; k_extra "m ne")
end

section
theorem regMBy : (fun (_ : OpenLaw) (_ : Params → Frag) => True) PySem.Challenge.rw_sj0197_01 KF := by
  k_with_none
  k_with "m enter" => (
    (case k1 => exact B); (case k2 => exact X); (case k3 => exact T); (case k4 => exact st); (case k5 => exact sz); (case k6 => exact N)
    (case k7 => k_dflt k_is)
    (case hb => (conv => lhs; whnf))
    (case hs => (conv => lhs; whnf))
    (case k8 => k_dflt k_is)
    (case k9 => decide)
    (case k10 => exact BindsTo.of_eq rfl)
    (case k11 => exact locs rfl)
    (case c1 => exact rfl); (case c2 => exact rfl); (case c3 => exact rfl); (case c4 => decide)
    clear st sz N
    intro L h F N'
    (try dsimp only)
    (try k_fold))
  k_with "m end" => ((try k_unfold); (try dsimp only); refine' hret _ _ _ ?e1 ?e2 ?e3 ?e4; (case e1 => exact Fr.keep (by k_asm)); (case e4 => k_extra "m kept"))
  k_with "m kept" => (first | exact kept_nil | (refine' kept_tup ?ka ?kb ?kc; (case ka => k_asm); (case kb => k_mem); (case kc => k_extra "m kept")) | (refine' kept_not ?kd ?ke ?kf; (case kd => k_extra "m cls"); (case ke => decide); (case kf => k_extra "m kept")))
  k_with "m sub" => (first | exact subNil | exact subRefl | (refine' subStep ?su; (case su => k_extra "m sub")) | (refine' subUpS ?sk ?su; (case sk => ((fail_if_success (refine skipOf ?_; k_mem)); exact trivial)); (case su => k_extra "m sub")) | (refine' subCons ?sa ?sb; (case sa => k_mem); (case sb => k_extra "m sub")))
  k_with "m same" => (
    intro z h2 h3
    simp only [List.forall_mem_cons, List.not_mem_nil, false_implies, implies_true, and_true, ne_eq] at h2
    simp [kstB, h2])
  k_with "m same2" => (
    intro z h2 h3
    dsimp only [isPs, psOf] at h2
    simp only [List.forall_mem_cons, List.not_mem_nil, false_implies, implies_true, and_true, ne_eq] at h2
    simp only [List.contains_cons, List.contains_nil, Bool.or_false, Bool.or_eq_false_iff, beq_eq_false_iff_ne, ne_eq] at h3
    simp [kstB, h2, h3])
  k_with "m same3" => (
    intro z h2 h3
    simp only [List.forall_mem_cons, List.not_mem_nil, false_implies, implies_true, and_true, ne_eq] at h2
    simp only [List.contains_cons, List.contains_nil, Bool.or_false, beq_eq_false_iff_ne, ne_eq] at h3
    simp [kstB, h2, h3])
  k_with "m same4" => (
    intro z h2 h3
    simp only [List.forall_mem_cons, List.not_mem_nil, false_implies, implies_true, and_true, ne_eq] at h2
    simp only [List.contains_cons, List.contains_nil, Bool.or_false, Bool.or_eq_false_iff, beq_eq_false_iff_ne, ne_eq] at h3
    simp [kstB, h2, h3])
  k_with "m led" => (dsimp only [isLed, osLed, fxL, vD, hD, List.cons_append, List.nil_append]; k_extra "m sub")
  k_with "m ps" => (dsimp only [isPs, psOf]; kst_all)
  k_with "m all" => exact newsOut (by k_asm)
  k_with "m outA" => exact newsSub (by k_asm) (subApp (by k_extra "m sub"))
  k_with "m out" => exact newsSub (by k_asm) (by k_extra "m sub")
  k_with "m t1" => (first | with_reducible exact Take1.head | (refine' Take1.tail ?mt; (case mt => k_extra "m t1")))
  k_with "m take" => (first | exact TakeL.nil | (refine' TakeL.cons ?ma ?mb; (case ma => k_extra "m t1"); (case mb => k_extra "m take")))
  k_with "m cls" => (first | assumption | exact dict_cls (by assumption) | (conv => lhs; whnf))
  k_with "m nocell" => exact rfl
  k_with "m ne" => (first | assumption | (refine Ne.symm ?_; assumption) | (refine' ne_cls ?na ?nb ?nc ?nd ?nf ?ng; (case na => k_asm); (case nb => k_mem); (case nc => k_mem); (case nd => k_extra "m cls"); (case nf => k_extra "m cls"); (case ng => decide)) | (refine' ne_cell ?na ?nb ?nc ?nd ?nf; (case na => k_asm); (case nb => k_mem); (case nc => k_mem); (case nd => assumption); (case nf => k_extra "m nocell")) | (refine Ne.symm ?_; refine' ne_cell ?na ?nb ?nc ?nd ?nf; (case na => k_asm); (case nb => k_mem); (case nc => k_mem); (case nd => assumption); (case nf => k_extra "m nocell")) | (refine neN ?_; (try dsimp only); omega))
  k_with "m ne1" => (first | exact ne1_nil | (refine' ne1_tup ?nt ?nu; (case nt => first | exact rfl | assumption); (case nu => k_extra "m ne1")) | (refine' ne1_cls ?n1 ?n2 ?n3 ?n4; (case n1 => k_extra "m cls"); (case n2 => k_extra "m cls"); (case n3 => decide); (case n4 => k_extra "m ne1")) | (refine' ne1_cell ?n1 ?n2 ?n4; (case n1 => assumption); (case n2 => k_extra "m nocell"); (case n4 => k_extra "m ne1")) | (refine' ne1_cons ?nv ?nw; (case nv => k_extra "m ne"); (case nw => k_extra "m ne1")))
  k_with "m off" => (first | exact off_nil | k_extra "m offop" | (refine' off_consT ?oc ?ob; (case oc => first | exact rfl | assumption); (case ob => k_extra "m off")) | (refine' off_cons ?oa ?ob; (case oa => k_extra "m ne1"); (case ob => k_extra "m off")))
  k_with "m use" => (
    (case hA => exact rfl); (case hf => exact rfl); (case hk => exact rfl); (case hh => exact rfl)
    (case B => k_asm); (case F => k_asm); (case X => k_asm); (case T => k_asm); (case N => k_asm)
    (case hd => exact Nat.le_of_ble_eq_true rfl); (case hu => exact Nat.le_of_ble_eq_true rfl)
    (case tk => k_extra "m take")
    (case off => k_extra "m off"))
  k_with "call ref" => (k_here; k_dflt (k_extra "m call"))
  k_with "compareOp NotIn str ref" => (k_here; k_dflt (refine' notin_tuple_strs ?k1 ?k2 ?_; (case k1 => exact tupK (by k_in) (by k_is)); (case k2 => kde_strs); k_whole))
  k_with "compareOp In str ref" => (k_here; k_dflt (refine' in_tuple_strs ?k1 ?k2 ?_; (case k1 => exact tupK (by k_in) (by k_is)); (case k2 => kde_strs); k_whole))
  k_with "setItem ref str" => (k_here; k_dflt (refine' setItem_K PyProof.V.same_str (strKind_is _ _ _ _) ?v ?F ?N ?U ?d ?f ?_ ?z; (case F => k_asm); (case N => k_asm); (case U => k_updF); (case d => k_asm); (case f => k_asm); (case z => exact line_of_lenLe (n := 5) (by assumption) (by decide)); (case v => k_flat)); intro h' o' F' N' hd' hf'; (try dsimp only at N'); (try k_sweep))
  k_with "compareOp Eq ref str" => (k_here; k_dflt (refine' eq_tup_str ?k1 ?k2 ?k3 ?_; (case k1 => k_asm); (case k2 => k_mem); (case k3 => exact Nat.le_of_ble_eq_true rfl); k_whole))
  k_with "CompSrc" => (k_here; k_dflt (k_extra "m src"))
  k_with "CompEnd" => (k_here; k_extra "m compend")
  k_with "call builtin:sorted" => (k_here; k_dflt (k_extra "m sorted"))
  k_with "compareOp NotEq str str" => (k_here; k_extra "m neq")
  k_with "compareOp Eq str str" => (k_here; k_extra "m eqs")
  k_with "call builtin:str.join" => (k_here; k_dflt (k_extra "m join"))
  k_with "eval Lambda" => (k_here; k_dflt (k_extra "m lam"))
  k_with "compareOp NotEq int int" => (k_here; k_dflt (k_extra "m neqi"))
  k_with "compareOp NotEq ref ref" => (k_here; k_dflt (k_extra "m neqt"))
  k_with "call builtin:len" => (k_here; k_dflt (k_extra "m len"))
  k_with "binaryOp Add ref ref" => (k_here; k_dflt (k_extra "m addl"))
  k_with "eval ListComp" => (k_here; k_extra "m comp")
  k_with "subscriptTail" => (k_here; k_dflt (k_extra "m item"))
  k_with "execs cons" => (k_here; k_extra "m stmt")
  trivial
variable {fn0 : Addr}
local macro_rules | `(tactic| k_lt $h:ident) => `(tactic| skip)
noncomputable def lawBody : List Stmt := bodOf (stAt 64)
theorem Quad.reverse {vs pl ts} (h : Quad vs pl ts) : Quad vs.reverse pl.reverse ts.reverse := by
  induction h with
  | nil => exact .nil
  | cons _ ih => rw [List.reverse_cons, List.reverse_cons, List.reverse_cons]; exact ih.append (.cons .nil)
theorem ChnR.len {S0 : Str} : ∀ {ds : List Deed} {S : Str}, ChnR S0 ds S → S.length < 100 → S0.length < 100
  | [], _, h, hs => by rw [← show _ = S0 from h]; exact hs
  | (_, _, _, _) :: _, _, h, _ => ChnR.len h.2.2.2.2.2.2.2 h.2.2.2.2.1
inductive UndoInv (S0 : Str) (nw : Led) (op : Led) (I : Addr) (vs2 : List Value) (m : Str → Option Value) (news : Led) : Prop
  | mk (S : Str) (ts : Tok) (pl2 : Led) (ds2 : List Deed) (u : Str → Option Value) (q0 : m = (fun y => ([(Str.ofString "subject", Value.str S ts)].lookup y).or (u y))) (q1 : news = nw) (q2 : Quad vs2 pl2 ds2) (q3 : (∀ p ∈ pl2, p ∈ op)) (q4 : ChnR S0 ds2 S) (q5 : S.length < 100) (q6 : (∀ p ∈ nw, p.1 < I))
theorem law_c {w : World} {lo : List Str} {mean mg mb} {base g : Heap} {s : Shared} {Q : Flow → Shared → Prop} {E : Value → Shared → Prop} {L bx la sa da : Addr} {S0 : Str} {i : Nat} {m : Str → Option Value} {news : Led}
    (B : Below callerA base [] g) (X : (KF w.params).In g) (T : Top topProg lo mean mg mb g)
    (F : Fr g L s.heap m) (N : News g L s.heap news) (hLS : LawSt L bx la sa da S0 i m news) (hi8 : i < 9) (hE : PassesOwn (model PW w) (callerA.deeper (lawEnv L fn0)) (lawEnv L fn0) E)
    (hQ : ∀ h' tk' m' ps', Fr g L h' m' → News g L h' [((474 : Addr), tabObj ps')] → Q (.ret (.bool true)) { s with heap := h', toks := tk' })
    (n1 : @Ne Nat bx la) (n2 : @Ne Nat sa bx) (n3 : @Ne Nat sa la) (n4 : @Ne Nat da bx) (n5 : @Ne Nat da la) (n6 : @Ne Nat da sa) :
    wpAny (model PW w) (callerA.deeper (lawEnv L fn0)) (execs (lawBody.drop 4) (lawEnv L fn0)) Q E s := by
  obtain ⟨S, ts, c, tc, vs, xs, k, j, svs, srcs, ks, pa, pvs, pl, tsr, kp, dvs, dl, ds, kd, oB, oS, oF, oP, vF, vP, ps, op, u, rfl, rfl, hop, hTA, d1, d2, d3, d4, hi, hx, hc0, hc1, hokS, hS8, hsr, hsi, hs0, hsl, htr, hpl, hti, hgd, hsp, hqd, hdl, hdi, hch, n7, n8, n9, n10⟩ := hLS
  have hS : S.length < 100 := by omega
  have hdvl : dvs.length < 10 := by rw [Quad.len hqd]; omega
  have hqr := Quad.reverse hqd
  have hdlr : ∀ p ∈ dl.reverse, p ∈ op := fun p hp => hdl p (List.mem_reverse.mp hp)
  clear hokS hS8 htr hpl hti hgd hsp hdi
  unfold lawEnv at hE ⊢
  generalize hs : scoOf (stAt 64) = sc at hE ⊢
  (conv at hs => lhs; whnf)
  subst hs
  generalize hb : lawBody.drop 4 = bd
  (conv at hb => lhs; whnf)
  subst hb
  (try dsimp only)
  (try k_fold)
  k_with "m nocell" => (first | exact rfl | exact dict_noCell (by assumption))
  k_with "m nof" => (first | exact allNil | (refine' allCons ?na ?nb; (case na => first | exact rfl | exact dict_noFields (by assumption)); (case nb => k_extra "m nof")))
  k_with "m ne" => (first | with_reducible assumption | (refine Ne.symm ?_; with_reducible assumption) | (refine' ne_of_all ?nx ?ny; (case nx => with_reducible assumption); (case ny => k_mem)) | (refine' Ne.symm (ne_of_all ?nx ?ny); (case nx => with_reducible assumption); (case ny => k_mem)) | (refine' ne_cls ?na ?nb ?nc ?nd ?nf ?ng; (case na => k_asm); (case nb => k_mem); (case nc => k_mem); (case nd => k_extra "m cls"); (case nf => k_extra "m cls"); (case ng => decide)) | (refine' ne_cell ?na ?nb ?nc ?nd ?nf; (case na => k_asm); (case nb => k_mem); (case nc => k_mem); (case nd => with_reducible assumption); (case nf => k_extra "m nocell")) | (refine Ne.symm ?_; refine' ne_cell ?na ?nb ?nc ?nd ?nf; (case na => k_asm); (case nb => k_mem); (case nc => k_mem); (case nd => with_reducible assumption); (case nf => k_extra "m nocell")) | (refine neN ?_; (try dsimp only); omega))
  k_with "m offop" => (refine' off_op ?ho ?hn; (case ho => with_reducible assumption); (case hn => k_extra "m nof"))
  k_with "m kall" => (first
    | (refine' op_cls ?ka ?kb ?kc ?kd ?ke ?kf ?kg; (case ka => k_asm); (case kb => k_mem); (case kc => (intro p hp; repeat' (first | exact hp | refine List.Mem.tail _ ?_))); (case kd => assumption); (case ke => k_extra "m cls"); (case kf => decide); (case kg => first | exact rfl | exact dict_noFields (by assumption)))
    | (refine' op_cell ?ka ?kb ?kc ?kd ?ke; (case ka => k_asm); (case kb => k_mem); (case kc => (intro p hp; repeat' (first | exact hp | refine List.Mem.tail _ ?_))); (case kd => assumption); (case ke => assumption)))
  k_with "m nt" => (first | exact allNil | (refine' allCons ?na ?nb; (case na => first | exact rfl | exact nt_dict (by assumption) | exact nt_cell (by assumption)); (case nb => k_extra "m nt")))
  k_with "exec For Tuple Subscript cons nil" => (refine' For_turns ?lF ?_ ?hs ?hE; (case lF => k_asm); (case hs => exact fun _ => rfl); (case hE => (try k_unfold); (try dsimp only); with_unfolding_all passes_own); k_whole)
  k_with "pyIter ref" => (refine stopHere ?_)
  k_with "UnrEndW" => (refine stopHere ?_)
  k_with "subscriptTail Name Slice ref ref" => (refine' krv_lit (zs := dvs.reverse) ?F ?N ?l ?k ?e ?_ ?s ?t ?z; (case F => k_asm); (case N => k_asm); (case l => exact News.isList (by k_asm) (by k_mem)); (case k => exact IsPart.int _ _); (case e => exact rfl); (case s => with_unfolding_all rfl); (case t => kmk_pure); (case z => (rw [PySem.sizeLine_eq, List.size_toArray]; omega)); intro dr h' F' N' lDr; (try dsimp only))
  k_with "m item" => (refine' list_item ?itN ?itm ?it0 ?it1 ?itx ?_; (case itN => k_asm); (case itm => k_mem); (case itx => exact hit0); (case it0 => exact Int.le_refl 0); (case it1 => decide))
  k_with "m call" => (first
    | (refine' use_spec ?B ?F ?X ?T ?N ?hA ?hf ?hk ?hh ?hd ?hu (spliced_spec ?p1 ?p2) ?tk ?off ?_
       k_extra "m use"
       (case p1 => omega); (case p2 => first | omega | exact Nat.lt_of_le_of_lt (Txt.length_slice_le _ _ _) (by omega))
       k_whole
       rintro _ h' tk' _ F' N' ⟨t91, rfl, rfl⟩ hO
       clear hO
       (try dsimp only [List.cons_append, List.nil_append] at N')
       (try dsimp only)
       (try k_fold))
    | (refine' use_spec ?B ?F ?X ?T ?N ?hA ?hf ?hk ?hh ?hd ?hu (apart_spec ?p0 ?p3 ?p4 ?p5 ?p6 ?p7) ?tk ?off ?_
       k_extra "m use"
       (case p0 => assumption); (case p3 => assumption); (case p4 => omega); (case p5 => assumption); (case p6 => omega); (case p7 => assumption)
       k_whole
       rintro _ h' tk' _ F' N' ⟨rfl, rfl⟩ hO
       clear hO
       (try dsimp only [List.cons_append, List.nil_append] at N')
       (try dsimp only)
       (try k_fold)))
  k_with "m neq" => (refine' str_ne_of ?ne9 ?_; (case ne9 => exact hun); k_whole)
  k_with "m eqs" => (refine' str_eq_of ?ne9 ?_; (case ne9 => exact hS0); k_whole)
  k_steps
  unfold Stop
  obtain ⟨t0, hit0⟩ := strs_get hsr 0 (by cases srcs with | nil => cases hs0 | cons => exact Nat.succ_pos _)
  rw [List.getD_eq_getElem?_getD, hs0] at hit0
  dsimp only [Option.getD] at hit0
  refine iter_listInv (UndoInv S0 ((dr, listOf dvs.reverse.toArray 0) :: lawLd L bx la sa pa da oB oS oF oP c tc vs k j svs ks pvs kp dvs kd ps op) op) rfl F' N' (.head _) rfl rfl ?_ ?_ ?_
  · intro I hI
    exact ⟨S, ts, _, _, _, chain_ofC _ (by exact .cons (by rfl) (.nil)), rfl, hqr, hdlr, hch, hS, hI⟩
  · clear F' N' lDr hch hqr hdlr hS hqd hdl F N
    rintro I v r m news ⟨S1, ts1, pl2, ds2, u1, rfl, rfl, hq2, hsub2, hch2, hl2, hlt2⟩ it h' tk1 hit F N
    cases hq2 with
    | @cons a S2 t2 b e t1 t2' t3 t4 r pl2 ds2 hq2 =>
      obtain ⟨hc1, hc2, hc3, hc4, hc5, hc6, hc7, hc8⟩ := hch2
      have hun : splT S1 (Txt.slice S2 (some b) (some e)) b (b + t2.length) = S2 := by rw [hc1]; exact undo_law hc2 hc3 hc4
      have N2 : News g L h' ((I, it) :: (a, tup [.str S2 t1, .int b t2', .int e t3, .str t2 t4]) :: (dr, listOf dvs.reverse.toArray 0) :: lawLd L bx la sa pa da oB oS oF oP c tc vs k j svs ks pvs kp dvs kd ps op) := newsSub2 N (fun p hp => by
        cases hp with
        | head => exact .head _
        | tail _ hp => cases hp with
          | head => (have z := hsub2 _ (.head _)); repeat' (first | exact z | refine List.Mem.tail _ ?_)
          | tail _ hp => exact .tail _ hp)
      clear N hc1
      k_steps
      unfold Stop
      rename Fr _ _ _ _ => F1
      rename News _ _ _ _ => N1
      rw [show Txt.slice S1 none (some b) ++ Txt.slice S2 (some b) (some e) ++ Txt.slice S1 (some (b + (t2.length : Int))) none = S2 from hun] at F1
      have N3 : News g L _ ([(I, it)] ++ ((dr, listOf dvs.reverse.toArray 0) :: lawLd L bx la sa pa da oB oS oF oP c tc vs k j svs ks pvs kp dvs kd ps op)) := newsSub2 N1 (fun p hp => by
        cases hp with
        | head => exact .tail _ (.tail _ (.head _))
        | tail _ hp => exact .tail _ (.tail _ (.tail _ (.tail _ hp))))
      exact ⟨_, _, _, _, rfl, F1, N3, fun p hp q hq => by rw [List.mem_singleton.mp hq]; exact Nat.ne_of_lt (hlt2 p hp), ⟨.head _, trivial⟩, S2, t91, pl2, ds2, _, chain_ofC _ (by exact .cons (by rfl) (.nil)), rfl, hq2, fun p hp => hsub2 p (.tail _ hp), hc8, hc5, hlt2⟩
  · rintro I m news ⟨S1, ts1, pl2, ds2, u1, rfl, rfl, hq2, hsub2, hch2, hl2, hlt2⟩ h' tk1 F9 N9
    cases hq2
    have hS0 : S1 = S0 := hch2
    k_steps
    exact hQ _ _ _ _ F' (newsSub2 N' (by k_extra "m sub"))
end

section
theorem regMBh : (fun (_ : OpenLaw) (_ : Params → Frag) => True) PySem.Challenge.rw_sj0197_01 KF := by
  k_with_none
  k_with "m enter" => (
    (case k1 => exact B); (case k2 => exact X); (case k3 => exact T); (case k4 => exact st); (case k5 => exact sz); (case k6 => exact N)
    (case k7 => k_dflt k_is)
    (case hb => (conv => lhs; whnf))
    (case hs => (conv => lhs; whnf))
    (case k8 => k_dflt k_is)
    (case k9 => decide)
    (case k10 => exact BindsTo.of_eq rfl)
    (case k11 => exact locs rfl)
    (case c1 => exact rfl); (case c2 => exact rfl); (case c3 => exact rfl); (case c4 => decide)
    clear st sz N
    intro L h F N'
    (try dsimp only)
    (try k_fold))
  k_with "m end" => ((try k_unfold); (try dsimp only); refine' hret _ _ _ ?e1 ?e2 ?e3 ?e4; (case e1 => exact Fr.keep (by k_asm)); (case e4 => k_extra "m kept"))
  k_with "m kept" => (first | exact kept_nil | (refine' kept_tup ?ka ?kb ?kc; (case ka => k_asm); (case kb => k_mem); (case kc => k_extra "m kept")) | (refine' kept_not ?kd ?ke ?kf; (case kd => k_extra "m cls"); (case ke => decide); (case kf => k_extra "m kept")))
  k_with "m sub" => (first | exact subNil | exact subRefl | (refine' subStep ?su; (case su => k_extra "m sub")) | (refine' subUpS ?sk ?su; (case sk => ((fail_if_success (refine skipOf ?_; k_mem)); exact trivial)); (case su => k_extra "m sub")) | (refine' subCons ?sa ?sb; (case sa => k_mem); (case sb => k_extra "m sub")))
  k_with "m same" => (
    intro z h2 h3
    simp only [List.forall_mem_cons, List.not_mem_nil, false_implies, implies_true, and_true, ne_eq] at h2
    simp [kstB, h2])
  k_with "m same2" => (
    intro z h2 h3
    dsimp only [isPs, psOf] at h2
    simp only [List.forall_mem_cons, List.not_mem_nil, false_implies, implies_true, and_true, ne_eq] at h2
    simp only [List.contains_cons, List.contains_nil, Bool.or_false, Bool.or_eq_false_iff, beq_eq_false_iff_ne, ne_eq] at h3
    simp [kstB, h2, h3])
  k_with "m same3" => (
    intro z h2 h3
    simp only [List.forall_mem_cons, List.not_mem_nil, false_implies, implies_true, and_true, ne_eq] at h2
    simp only [List.contains_cons, List.contains_nil, Bool.or_false, beq_eq_false_iff_ne, ne_eq] at h3
    simp [kstB, h2, h3])
  k_with "m same4" => (
    intro z h2 h3
    simp only [List.forall_mem_cons, List.not_mem_nil, false_implies, implies_true, and_true, ne_eq] at h2
    simp only [List.contains_cons, List.contains_nil, Bool.or_false, Bool.or_eq_false_iff, beq_eq_false_iff_ne, ne_eq] at h3
    simp [kstB, h2, h3])
  k_with "m led" => (dsimp only [isLed, osLed, fxL, vD, hD, List.cons_append, List.nil_append]; k_extra "m sub")
  k_with "m ps" => (dsimp only [isPs, psOf]; kst_all)
  k_with "m all" => exact newsOut (by k_asm)
  k_with "m outA" => exact newsSub (by k_asm) (subApp (by k_extra "m sub"))
  k_with "m out" => exact newsSub (by k_asm) (by k_extra "m sub")
  k_with "m t1" => (first | with_reducible exact Take1.head | (refine' Take1.tail ?mt; (case mt => k_extra "m t1")))
  k_with "m take" => (first | exact TakeL.nil | (refine' TakeL.cons ?ma ?mb; (case ma => k_extra "m t1"); (case mb => k_extra "m take")))
  k_with "m cls" => (first | assumption | exact dict_cls (by assumption) | (conv => lhs; whnf))
  k_with "m nocell" => exact rfl
  k_with "m ne" => (first | assumption | (refine Ne.symm ?_; assumption) | (refine' ne_cls ?na ?nb ?nc ?nd ?nf ?ng; (case na => k_asm); (case nb => k_mem); (case nc => k_mem); (case nd => k_extra "m cls"); (case nf => k_extra "m cls"); (case ng => decide)) | (refine' ne_cell ?na ?nb ?nc ?nd ?nf; (case na => k_asm); (case nb => k_mem); (case nc => k_mem); (case nd => assumption); (case nf => k_extra "m nocell")) | (refine Ne.symm ?_; refine' ne_cell ?na ?nb ?nc ?nd ?nf; (case na => k_asm); (case nb => k_mem); (case nc => k_mem); (case nd => assumption); (case nf => k_extra "m nocell")) | (refine neN ?_; (try dsimp only); omega))
  k_with "m ne1" => (first | exact ne1_nil | (refine' ne1_tup ?nt ?nu; (case nt => first | exact rfl | assumption); (case nu => k_extra "m ne1")) | (refine' ne1_cls ?n1 ?n2 ?n3 ?n4; (case n1 => k_extra "m cls"); (case n2 => k_extra "m cls"); (case n3 => decide); (case n4 => k_extra "m ne1")) | (refine' ne1_cell ?n1 ?n2 ?n4; (case n1 => assumption); (case n2 => k_extra "m nocell"); (case n4 => k_extra "m ne1")) | (refine' ne1_cons ?nv ?nw; (case nv => k_extra "m ne"); (case nw => k_extra "m ne1")))
  k_with "m off" => (first | exact off_nil | k_extra "m offop" | (refine' off_consT ?oc ?ob; (case oc => first | exact rfl | assumption); (case ob => k_extra "m off")) | (refine' off_cons ?oa ?ob; (case oa => k_extra "m ne1"); (case ob => k_extra "m off")))
  k_with "m use" => (
    (case hA => exact rfl); (case hf => exact rfl); (case hk => exact rfl); (case hh => exact rfl)
    (case B => k_asm); (case F => k_asm); (case X => k_asm); (case T => k_asm); (case N => k_asm)
    (case hd => exact Nat.le_of_ble_eq_true rfl); (case hu => exact Nat.le_of_ble_eq_true rfl)
    (case tk => k_extra "m take")
    (case off => k_extra "m off"))
  k_with "call ref" => (k_here; k_dflt (k_extra "m call"))
  k_with "compareOp NotIn str ref" => (k_here; k_dflt (refine' notin_tuple_strs ?k1 ?k2 ?_; (case k1 => exact tupK (by k_in) (by k_is)); (case k2 => kde_strs); k_whole))
  k_with "compareOp In str ref" => (k_here; k_dflt (refine' in_tuple_strs ?k1 ?k2 ?_; (case k1 => exact tupK (by k_in) (by k_is)); (case k2 => kde_strs); k_whole))
  k_with "setItem ref str" => (k_here; k_dflt (refine' setItem_K PyProof.V.same_str (strKind_is _ _ _ _) ?v ?F ?N ?U ?d ?f ?_ ?z; (case F => k_asm); (case N => k_asm); (case U => k_updF); (case d => k_asm); (case f => k_asm); (case z => exact line_of_lenLe (n := 5) (by assumption) (by decide)); (case v => k_flat)); intro h' o' F' N' hd' hf'; (try dsimp only at N'); (try k_sweep))
  k_with "compareOp Eq ref str" => (k_here; k_dflt (refine' eq_tup_str ?k1 ?k2 ?k3 ?_; (case k1 => k_asm); (case k2 => k_mem); (case k3 => exact Nat.le_of_ble_eq_true rfl); k_whole))
  k_with "CompSrc" => (k_here; k_dflt (k_extra "m src"))
  k_with "CompEnd" => (k_here; k_extra "m compend")
  k_with "call builtin:sorted" => (k_here; k_dflt (k_extra "m sorted"))
  k_with "compareOp NotEq str str" => (k_here; k_extra "m neq")
  k_with "compareOp Eq str str" => (k_here; k_extra "m eqs")
  k_with "call builtin:str.join" => (k_here; k_dflt (k_extra "m join"))
  k_with "eval Lambda" => (k_here; k_dflt (k_extra "m lam"))
  k_with "compareOp NotEq int int" => (k_here; k_dflt (k_extra "m neqi"))
  k_with "compareOp NotEq ref ref" => (k_here; k_dflt (k_extra "m neqt"))
  k_with "call builtin:len" => (k_here; k_dflt (k_extra "m len"))
  k_with "binaryOp Add ref ref" => (k_here; k_dflt (k_extra "m addl"))
  k_with "eval ListComp" => (k_here; k_extra "m comp")
  k_with "subscriptTail" => (k_here; k_dflt (k_extra "m item"))
  k_with "execs cons" => (k_here; k_extra "m stmt")
  trivial
variable {fn0 : Addr}
local macro_rules | `(tactic| k_lt $h:ident) => `(tactic| skip)
section
variable {prog : Program} {w : World} {A : Around} {E : Value → Shared → Prop} {s : Shared} {env : Env} {h₀ : Heap} {x : Str} {body : List Stmt} {Q : Flow → Shared → Prop}
theorem range_ind {I : Addr} {a : Int} {n : Nat} (Inv : Nat → (Str → Option Value) → Led → Prop)
    (step : ∀ i m news, i < n → Inv i m news → ∀ t h tk x1 x2, Fr h₀ env.locals h (fun y => if y = x then some (.int (a + (i : Int)) t) else m y) → News h₀ env.locals h ((I, itR x1 x2) :: news) →
      wpAny (model prog w) A (execs body env) (fun f s₂ => (f = .next ∨ f = .cont) ∧ UnrEnd h₀ env.locals { s with heap := h, toks := tk } I (itR x1 x2) (Inv (i + 1)) s₂) E { s with heap := h, toks := tk })
    (done : ∀ m news, Inv n m news → ∀ h tk, Fr h₀ env.locals h m → News h₀ env.locals h news → Q .next { s with heap := h, toks := tk }) :
    ∀ k i m news, i + k = n → Inv i m news → RangeRest prog w A E h₀ env x body Q s I a n k i m news
  | 0, i, m, news, e, h => by
    obtain rfl : i = n := e
    exact done m news h
  | k + 1, i, m, news, e, h => fun t hh tk F N => wpAny_mono (step i m news (by omega) h t hh tk _ _ F N) (fun f s₂ ⟨hf, h', tk', m', news', e1, F', N', ho, r⟩ => by
      have fin : UnrEnd h₀ env.locals { s with heap := hh, toks := tk } I (itR (a + ((i + 1 : Nat) : Int)) ((n : Int) - ((i + 1 : Nat) : Int))) (RangeRest prog w A E h₀ env x body Q s I a n k (i + 1)) s₂ := ⟨h', tk', m', news', e1, F', N', ho, range_ind Inv step done k (i + 1) m' news' (by omega) r⟩
      rcases hf with rfl | rfl <;> exact fin) fun _ _ e => e
end
theorem law_led {g h : Heap} {L : Addr} {a1 a2 a3 a4 a5 a6 a7 a8 a9 a10 a11 a12 a13 : Addr × Obj} (N : News g L h [a1, a2, a3, a4, a5, a6, a7, a8, a9, a10, a11, a12, a13]) : News g L h [a13, a9, a10, a11, a12, a1, a2, a7, a5, a4, a6] :=
  newsSub2 N (by k_extra "m sub")
theorem okS_join {ss : List Str} (h : ∀ t ∈ ss, okS t) : okS (Txt.join (Str.ofString "") ss) := fun n hn => by
  rw [cs_join] at hn
  obtain ⟨l, hl, hn⟩ := List.mem_flatten.mp hn
  obtain ⟨t, ht, rfl⟩ := List.mem_map.mp hl
  exact h t ht n hn
inductive SubInv (cs : Led) (bx la : Addr) (ys : List Value) (news : Led) : Prop
  | mk (vs' : List Value) (xs' : List Int) (ss : List Str) (c' : Int) (tc' : Tok) (k' j' : Nat) (q0 : news = [(bx, listOf [Value.ref la, .int c' tc'].toArray k'), (la, listOf vs'.toArray j')] ++ cs) (q1 : IntsAre vs' xs') (q2 : vs'.length ≤ 60) (q3 : StrsAre ys ss) (q4 : (∀ t ∈ ss, t.length = 1 ∧ okS t)) (q5 : 0 ≤ c') (q6 : c' < 10 + (ys.length : Int))
theorem law_a {w : World} {lo : List Str} {mean mg mb} {base g : Heap} {L a : Addr} {vs : List Value} {ns : List Int} {s : Shared} {Q : Flow → Shared → Prop} {E : Value → Shared → Prop} {oB oS oF oP : Obj}
    (B : Below callerA base [] g) (X : (KF w.params).In g) (T : Top topProg lo mean mg mb g) (hl : g.IsList a vs.toArray) (hi : IntsAre vs ns) (hx : ns.length ≤ 63)
    (F : Fr g L s.heap (fun y => if y = Str.ofString "script" then some (.ref a) else none))
    (N : News g L s.heap [(L + 1 + 1 + 1 + 1, oP), (L + 1 + 1 + 1, oF), (L + 1 + 1, oS), (L + 1, oB), (474, tabObj #[])]) (hCH : CodeHd g 476 474) (d1 : oB.data = .cell none) (d2 : oS.data = .cell none) (d3 : oF.data = .cell none) (d4 : oP.data = .cell none)
    (hE : PassesOwn (model PW w) (callerA.deeper (lawEnv L fn0)) (lawEnv L fn0) E)
    (hQ : ∀ h' tk' m' ps', Fr g L h' m' → News g L h' [((474 : Addr), tabObj ps')] → Q (.ret (.bool true)) { s with heap := h', toks := tk' }) :
    wpAny (model PW w) (callerA.deeper (lawEnv L fn0)) (execs (bodOf (stAt 64)) (lawEnv L fn0)) Q E s := by
  unfold lawEnv at hE ⊢
  generalize hs : scoOf (stAt 64) = sc at hE ⊢
  (conv at hs => lhs; whnf)
  subst hs
  generalize hb : bodOf (stAt 64) = bd
  (conv at hb => lhs; whnf)
  subst hb
  k_with "m nocell" => (first | exact rfl | exact dict_noCell (by assumption))
  k_with "m nof" => (first | exact allNil | (refine' allCons ?na ?nb; (case na => first | exact rfl | exact dict_noFields (by assumption)); (case nb => k_extra "m nof")))
  k_with "m ne" => (first | with_reducible assumption | (refine Ne.symm ?_; with_reducible assumption) | (refine' ne_of_all ?nx ?ny; (case nx => with_reducible assumption); (case ny => k_mem)) | (refine' Ne.symm (ne_of_all ?nx ?ny); (case nx => with_reducible assumption); (case ny => k_mem)) | (refine' ne_cls ?na ?nb ?nc ?nd ?nf ?ng; (case na => k_asm); (case nb => k_mem); (case nc => k_mem); (case nd => k_extra "m cls"); (case nf => k_extra "m cls"); (case ng => decide)) | (refine' ne_cell ?na ?nb ?nc ?nd ?nf; (case na => k_asm); (case nb => k_mem); (case nc => k_mem); (case nd => with_reducible assumption); (case nf => k_extra "m nocell")) | (refine Ne.symm ?_; refine' ne_cell ?na ?nb ?nc ?nd ?nf; (case na => k_asm); (case nb => k_mem); (case nc => k_mem); (case nd => with_reducible assumption); (case nf => k_extra "m nocell")) | (refine neN ?_; (try dsimp only); omega))
  k_with "m offop" => (refine' off_op ?ho ?hn; (case ho => with_reducible assumption); (case hn => k_extra "m nof"))
  k_with "m kall" => (first
    | (refine' op_cls ?ka ?kb ?kc ?kd ?ke ?kf ?kg; (case ka => k_asm); (case kb => k_mem); (case kc => (intro p hp; repeat' (first | exact hp | refine List.Mem.tail _ ?_))); (case kd => assumption); (case ke => k_extra "m cls"); (case kf => decide); (case kg => first | exact rfl | exact dict_noFields (by assumption)))
    | (refine' op_cell ?ka ?kb ?kc ?kd ?ke; (case ka => k_asm); (case kb => k_mem); (case kc => (intro p hp; repeat' (first | exact hp | refine List.Mem.tail _ ?_))); (case kd => assumption); (case ke => assumption)))
  k_with "m nt" => (first | exact allNil | (refine' allCons ?na ?nb; (case na => first | exact rfl | exact nt_dict (by assumption) | exact nt_cell (by assumption)); (case nb => k_extra "m nt")))
  k_with "m src" => (refine stopHere ?_)
  k_with "m compend" => (refine stopHere ?_)
  k_with "m call" => (first
    | (refine' use_spec ?B ?F ?X ?T ?N ?hA ?hf ?hk ?hh ?hd ?hu (take_spec ?p0 ?p1 ?p2 ?p3 ?p4 ?p5 ?p6) ?tk ?off ?_
       k_extra "m use"
       (case p0 => assumption); (case p1 => first | decide | omega); (case p2 => first | decide | omega); (case p3 => first | assumption | decide); (case p4 => first | decide | omega); (case p5 => first | assumption | (rw [IntsAre.length (by assumption)]; omega)); (case p6 => first | assumption | k_extra "m ne")
       k_whole
       rintro _ h' tk' _ F' N' ⟨v1, t1, tc1, vs1, xs1, k1, j1, hv1, hv2, hi1, hx1⟩ hO
       clear hO
       (try dsimp only [List.cons_append, List.nil_append] at N')
       (try dsimp only)
       (try k_fold))
    | (refine stopHere ?_))
  (try k_fold)
  k_steps
  rename_i D1 ws g1 l1 hI1 hC1 hL1 la c1 g2 l2 bx g3 l3 g4 oB2 F1 N1 dB F2 N2 g5 tk3 t5 u5 v5 hR F3 N3 hk3
  unfold Stop
  have nb : @Ne Nat bx la := (Nat.ne_of_lt (l3 _ (.head _))).symm
  refine LCg.CompSrc.range (n := (3 + v1 - 0).toNat) (news := [(bx, listOf [Value.ref la, .int (0 + 1) tc1].toArray k1), (la, listOf vs1.toArray j1)] ++ [(L + 1 + 1 + 1 + 1, oP), (L + 1 + 1 + 1, oF), (L + 1 + 1, oS), (L + 1, oB2), (474, tabObj #[])]) (by rfl) F3 (newsSub2 N3 (by k_extra "m sub")) hR (by exact small_one (by l_bnd) (by l_bnd) (by l_bnd) (by l_bnd)) (by exact rangeSize_nat _ _) (by rw [PySem.sizeLine_eq]; omega) ?_
  intro g'
  refine comp_ind (n := (3 + v1 - 0).toNat) (SubInv [(L + 1 + 1 + 1 + 1, oP), (L + 1 + 1 + 1, oF), (L + 1 + 1, oS), (L + 1, oB2), (474, tabObj #[])] bx la) ?_ ?_ _ 0 [] _ (Nat.zero_add _) ⟨vs1, xs1, [], 0 + 1, tc1, k1, j1, rfl, hi1, hx1, .nil, (fun _ h => nomatch h), by decide, by decide⟩
  · clear hE hQ F1 N1 F2 N2 F3 N3 hk3
    rintro i v ys news hlt ⟨vs', xs', ss, c', tc', k', j', rfl, hi', hx', hys, hns, hc0, hc3⟩ hP I oI C oC D m₂ h2 tk2 E' hC hx2 F2 N2 off ne2
    dsimp only [List.cons_append, List.nil_append] at N2 off
    have off0 := off
    simp only [LCg.Off3, and_true] at off
    obtain ⟨⟨b1, b2, b3⟩, ⟨a1, a2, a3⟩, -⟩ := off
    have hc5 : c' < 1000 := by omega
    k_with "m call" => (
      refine' use_spec ?B ?F ?X ?T ?N ?hA ?hf ?hk ?hh ?hd ?hu (take_spec (W := 3) ?p0 ?p1 ?p2 ?p3 ?p4 ?p5 ?p6) ?tk ?off ?_
      k_extra "m use"
      (case p0 => assumption); (case p1 => decide); (case p2 => decide); (case p3 => assumption); (case p4 => assumption); (case p5 => assumption); (case p6 => assumption)
      k_whole
      rintro _ h' tk' _ F' N' ⟨v2, t2, tc2, vs2, xs2, k2, j2, hv3, hv4, hi2, hx2'⟩ hO
      clear hO
      (try dsimp only [List.cons_append, List.nil_append] at N')
      (try dsimp only)
      (have hv : v2 = 0 ∨ v2 = 1 ∨ v2 = 2 := by omega)
      clear hv3 hv4
      rcases hv with hv | hv | hv
      all_goals (
        subst hv
        (try k_fold)))
    k_steps
    all_goals (
      unfold Stop
      refine LCg.CompEnd.intro (by k_asm) (by k_asm) [(bx, listOf [Value.ref la, .int (c' + 1) tc2].toArray k2), (la, listOf vs2.toArray j2), (L + 1 + 1 + 1 + 1, oP), (L + 1 + 1 + 1, oF), (L + 1 + 1, oS), (L + 1, oB2), (474, tabObj #[])] (by lcg_sub) off0 trivial ⟨vs2, xs2, ss ++ [_], c' + 1, tc2, k2, j2, rfl, hi2, hx2', strs_snoc hys, ?_, by omega, ?_⟩
      · intro q hq
        rcases List.mem_append.mp hq with hq | hq
        · exact hns q hq
        · rw [List.mem_singleton.mp hq]; exact ⟨rfl, fun n hn => (by decide : ∀ n ∈ cs _, n < 0x110000) n hn⟩
      · simp only [List.length_append, List.length_singleton]; omega)
  · rintro ys news ⟨vs', xs', ss, c', tc', k', j', rfl, hi', hx', hys, hns, hc0, hc3⟩ hl
    clear F1 N1 F2 N2 F3 N3 hk3
    have hsl : ss.length = (3 + v1 - 0).toNat := by rw [← StrsAre.length_eq hys]; exact hl
    have hjl := join_len fun t ht => (hns t ht).1
    have hjs := sum_le (B := 1) fun t ht => Nat.le_of_eq (hns t ht).1
    k_with "m join" => (refine join_listW (by first | is_list | kso_list) hys (by decide) (by omega) ?_; intro t9 k9; (try dsimp only); (rename LCg.Off1 _ _ => o9); (simp only [LCg.Off1, List.cons_append, List.nil_append, and_true] at o9); obtain ⟨o91, o92, o93⟩ := o9)
    k_with "exec For Name Call cons nil" => (with_unfolding_all refine' For_invVF ?lF ?k1 ?k2 ?_; (case lF => k_asm); (case k1 => exact rfl); (case k2 => exact rfl); k_whole)
    k_with "pyIter ref" => (refine stopHere ?_)
    k_with "call type:range" => (with_unfolding_all refine' range1_rows ?rF ?rN ?_; (case rF => k_asm); (case rN => k_asm); intro g9 kk9 u9 v9 w9 hR9 F9 N9 hk9)
    k_steps
    unfold Stop
    rename_i D2 g10 k10 g11 k11 sa g12 lsa tp g13 ltp pa g14 lpa da g15 lda D3 g16 lD3 g17 g18 oS2 dS g19 g20 F19 N19
    have hSl : (Txt.join (Str.ofString "") ss).length ≤ 8 := by omega
    have hSo : okS (Txt.join (Str.ofString "") ss) := okS_join fun t ht => (hns t ht).2
    generalize Txt.join (Str.ofString "") ss = S at *
    have e1 : @Ne Nat sa bx := (Nat.ne_of_lt (lsa _ (.tail _ (.head _)))).symm
    have e2 : @Ne Nat sa la := (Nat.ne_of_lt (lsa _ (.tail _ (.tail _ (.head _))))).symm
    have e3 : @Ne Nat da bx := by k_extra "m ne"
    have e4 : @Ne Nat da la := by k_extra "m ne"
    have e5 : @Ne Nat da sa := by k_extra "m ne"
    have e6 : @Ne Nat pa bx := by k_extra "m ne"
    have e7 : @Ne Nat pa la := by k_extra "m ne"
    have e8 : @Ne Nat pa sa := by k_extra "m ne"
    have e9 : @Ne Nat pa da := by k_extra "m ne"
    refine iter_rangeUnr (n := (2 + v1 - 0).toNat) rfl hR9 (by exact small_one (by l_bnd) (by l_bnd) (by l_bnd) (by l_bnd)) (rangeSize_nat _ _) F9 (law_led N9) ?_
    intro I hI
    refine range_ind (LawSt L bx la sa da S) ?_ ?_ _ 0 _ _ (Nat.zero_add _) ⟨S, t9, c' + 1, tc1, vs1, xs1, k1, j1, [.str S t9], [S], 0, pa, [.ref tp], _, [(0, 0, (S.length : Int))], 0, [], [], [], 0, oB2, oS2, oF, oP, none, none, #[], [(tp, _)], _, chain_ofC _ ?z1, rfl, ?z2, .inl rfl, dB, dS, d3, d4, hi1, hx1, ?z3, ?z4, hSo, ?z5, .cons _ _ .nil, Nat.le_refl _, rfl, ?z6, .cons .nil, fun p hp => hp, Nat.le_refl _, ?z7, ?z8, .nil, ?z9, Nat.le_refl _, rfl, e6, e7, e8, e9⟩
    case z1 => (exact .cons (by rfl) (.cons (by rfl) (.cons (by rfl) (.nil))))
    case z2 => exact .cons (.inl ⟨_, rfl⟩) (fun _ h => nomatch h)
    case z3 => omega
    case z4 => omega
    case z5 => omega
    case z6 =>
      intro t ht
      rw [List.mem_singleton.mp ht]
      omega
    case z7 =>
      intro q hq
      rw [List.mem_singleton.mp hq]
      exact ⟨Int.le_refl _, Int.ofNat_lt.mpr Nat.zero_lt_one, Int.le_refl _, Int.natCast_nonneg _, Int.le_refl _⟩
    case z8 =>
      simp [spell]
      exact List.take_of_length_le (Nat.le_of_eq (cs_len S))
    case z9 => exact fun p hp => nomatch hp
    · clear F9 N9 F' N' F19 N19
      intro i m news hlt hInv t h tk x1 x2 F N
      exact law_turn B X T F N hInv hCH (by omega) (fun fl m' news' h' tk' hf hl hF hN ho => ⟨hf, _, _, _, _, rfl, hF, hN, ho, hl⟩) nb e1 e2 e3 e4 e5
    · clear F9 N9 F' N' F19 N19
      intro m news hInv h tk F N
      exact law_c B X T F N hInv (by omega) hE (fun h' tk' m' ps' F N => hQ _ _ _ _ F N) nb e1 e2 e3 e4 e5
end

end
end Mine

open PySem PySem.W PySem.Calls PyProof.Rows
set_option maxHeartbeats 8000000
theorem PySem.Challenge.cw_sj0197_01_holds : PySem.Challenge.rw_sj0197_01.Holds := by
  k_with_none
  w_on
  refine holds_law (by kernel_rfl) fun said => ?_
  refine holds_open (q := Mine.view) (loose := Mine.LOOSE) (Xt := Mine.XT) (XP := XL Mine.view []) (Yf := Hook.obs (kmHook Mine.KF Mine.KA Mine.ka_ok [474])) (Ya := Hook.val (kmHook Mine.KF Mine.KA Mine.ka_ok [474])) (YP := Hook.says (kmHook Mine.KF Mine.KA Mine.ka_ok [474])) (N := 6182) Mine.left (Hook.of (kmHook Mine.KF Mine.KA Mine.ka_ok [474])) (Hook.keeps (kmHook Mine.KF Mine.KA Mine.ka_ok [474])) (fun s e => xl_of s (Bool.and_eq_true_iff.mp e).1) XL.keeps (by rfl) (by rfl) (by rfl) (fun s e => recFacts_of (Bool.and_eq_true_iff.mp e).2) (by rfl) (by first | assumption | decide +kernel) (by decide +kernel) ⟨rfl, rfl, rfl, rfl, rfl, by decide +kernel⟩ ?hw ?hc
  case hw => w_witness2
  k_fill
  intro w s₀ s₁ mg mb G Y fa o pm cd doc dV kV ho hd hcd hD hmg hg args vals as hpre hlay hrd hwl hlo
  have KX := km_in_of Y
  km_tabs Y
  have X := (Ground.X G).1
  have V := (Ground.X G).2
  refine Ground.open G ?_
  intro T B D TE TW
  try (refine guard_noD D (by decide +kernel) ?_; clear D)
  km_lay T hmg ho hd cd
  clear hmg
  wrow_args hpre hlay hrd hwl hlo
  all_goals (
    first | refine callC_kw (enter_call ?_) | refine enter_call ?_
    w_top on
    kn_posts
    w_call any ho hd hcd hD T F
    clear hd
    kn_ghosts F T
    k_drop
    skip)
  rename_i oP oF oS oB d4 d3 d2 d1 X0 X1 T1 K1 F1 N1 l0
  refine' Mine.law_a ?B ?X ?T ?l ?i ?hx ?F ?N ?C ?d1 ?d2 ?d3 ?d4 ?hE ?hQ
  case B => exact K1
  case X => exact X1
  case T => exact T1
  case l => exact lifted
  case i => assumption
  case F => exact F1
  case N => exact N1
  case C => exact codeHd
  case d1 => exact d1
  case d2 => exact d2
  case d3 => exact d3
  case d4 => exact d4
  case hx => omega
  case hE => passes_own
  case hQ =>
    intro h' tk' m' ps' F9 N9
    (try dsimp only)
    k_steps
