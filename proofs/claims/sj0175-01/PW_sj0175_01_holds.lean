import PyProof.Rows.All
import Wide.All
import OpenK.AllK
import Wide.FinOn
import PySem.Challenge.RW_sj0175_01
open PySem PySem.W PyProof.Rows
set_option Elab.async false
namespace Mine
section
open PySem PySem.W PyProof.Rows
def seenText : Program := { PySem.Challenge.pw_sj0175_01 with main := { PySem.Challenge.pw_sj0175_01.main with body := (PySem.Challenge.pw_sj0175_01.main.body.eraseIdx 15).eraseIdx 1 } }
namespace Top
noncomputable def fns : List Stmt := Challenge.pw_sj0175_01.main.body.flatMap fun s => match s with
  | .FunctionDef .. => [s]
  | .ClassDef _ _ _ b .. => b
  | _ => []
noncomputable def fnAt (k : Nat) : Arguments × List Stmt × Scope := match fns[k]? with
  | some (.FunctionDef _ a b _ _ _ sc _ _ _) => (a, b, sc)
  | _ => (⟨[], [], none, [], [], none, []⟩, [], Challenge.pw_sj0175_01.main.scope)
noncomputable def ldr : String := String.ofList ['_', '_', 'm', 'a', 'i', 'n', '_', '_', '.', '_', '_', 'l', 'o', 'a', 'd', 'e', 'r', '_', '_', '#', 'o', 'p', 'a', 'q', 'u', 'e']
noncomputable def o_43 : Params → Obj := fun _ => { cls := Value.type "tuple", data := Data.seq #[] }
noncomputable def o_44 : Params → Obj := fun _ => { cls := Value.none, data := Data.fields #[] }
noncomputable def o_45 : Params → Obj := fun _ => { cls := Value.type "code", data := Data.fields #[Value.str (Str.ofString "<module>") 182, Value.str (Str.ofString "<module>") 183, Value.str (Str.ofString "/claim/cut.py") 184, Value.int 1 0, Value.int 0 0, Value.int 0 0, Value.int 0 0, Value.int 0 0, Value.ref 11, Value.bool false, Value.int 181 0, Value.ref 12, Value.none, Value.none, Value.none, Value.none, Value.int 185 0, Value.int 1 0, Value.str (Str.ofString "/claim/cut.py") 186] }
noncomputable def o_46 : Params → Obj := fun _ => { cls := Value.type "frame", slots := #[some (Value.ref 13), some (Value.ref 3), some (Value.ref 3), none, some (Value.str (Str.ofString "__main__") 164), none, some (Value.ref 0)] }
noncomputable def o_49 : Params → Obj := fun P => { cls := Value.type "dict", data := Data.dict #[{ hash := PyData.keyHash P (Str.ofString "__name__"), key := Value.str (Str.ofString "__name__") 165, val := Value.str (Str.ofString "routeloom.fibtree") 194 }, { hash := PyData.keyHash P (Str.ofString "__doc__"), key := Value.str (Str.ofString "__doc__") 166, val := Value.none }, { hash := PyData.keyHash P (Str.ofString "__package__"), key := Value.str (Str.ofString "__package__") 167, val := Value.none }, { hash := PyData.keyHash P (Str.ofString "__loader__"), key := Value.str (Str.ofString "__loader__") 168, val := Value.builtin ldr }, { hash := PyData.keyHash P (Str.ofString "__spec__"), key := Value.str (Str.ofString "__spec__") 169, val := Value.none }, { hash := PyData.keyHash P (Str.ofString "__annotations__"), key := Value.str (Str.ofString "__annotations__") 170, val := Value.ref 6 }, { hash := PyData.keyHash P (Str.ofString "__builtins__"), key := Value.str (Str.ofString "__builtins__") 171, val := Value.ref 4 }, { hash := PyData.keyHash P (Str.ofString "__file__"), key := Value.str (Str.ofString "__file__") 173, val := Value.str (Str.ofString "/claim/cut.py") 172 }, { hash := PyData.keyHash P (Str.ofString "__cached__"), key := Value.str (Str.ofString "__cached__") 174, val := Value.none }, { hash := PyData.keyHash P (Str.ofString "_wall"), key := Value.str (Str.ofString "_wall") 193, val := Value.ref 21 }, { hash := PyData.keyHash P (Str.ofString "first_bits"), key := Value.str (Str.ofString "first_bits") 204, val := Value.ref 28 }, { hash := PyData.keyHash P (Str.ofString "bit_of"), key := Value.str (Str.ofString "bit_of") 213, val := Value.ref 35 }, { hash := PyData.keyHash P (Str.ofString "shared_length"), key := Value.str (Str.ofString "shared_length") 224, val := Value.ref 42 }, { hash := PyData.keyHash P (Str.ofString "with_child"), key := Value.str (Str.ofString "with_child") 233, val := Value.ref 49 }, { hash := PyData.keyHash P (Str.ofString "fork"), key := Value.str (Str.ofString "fork") 244, val := Value.ref 56 }, { hash := PyData.keyHash P (Str.ofString "tree_put"), key := Value.str (Str.ofString "tree_put") 258, val := Value.ref 63 }, { hash := PyData.keyHash P (Str.ofString "shrunk"), key := Value.str (Str.ofString "shrunk") 265, val := Value.ref 70 }, { hash := PyData.keyHash P (Str.ofString "tree_drop"), key := Value.str (Str.ofString "tree_drop") 277, val := Value.ref 77 }, { hash := PyData.keyHash P (Str.ofString "tree_look"), key := Value.str (Str.ofString "tree_look") 288, val := Value.ref 84 }, { hash := PyData.keyHash P (Str.ofString "tree_exact"), key := Value.str (Str.ofString "tree_exact") 298, val := Value.ref 91 }, { hash := PyData.keyHash P (Str.ofString "tree_all"), key := Value.str (Str.ofString "tree_all") 306, val := Value.ref 98 }] 21 }
noncomputable def o_50 : Params → Obj := fun _ => { cls := Value.none, data := Data.fields #[Value.int 1 0, Value.int 0 0, Value.ref 20, Value.int 5 0, Value.int 0 0, Value.ref 27, Value.int 7 0, Value.int 0 0, Value.ref 34, Value.int 9 0, Value.int 0 0, Value.ref 41, Value.int 14 0, Value.int 0 0, Value.ref 48, Value.int 18 0, Value.int 0 0, Value.ref 55, Value.int 22 0, Value.int 0 0, Value.ref 62, Value.int 35 0, Value.int 0 0, Value.ref 69, Value.int 39 0, Value.int 0 0, Value.ref 76, Value.int 49 0, Value.int 0 0, Value.ref 83, Value.int 56 0, Value.int 0 0, Value.ref 90, Value.int 61 0, Value.int 0 0, Value.ref 97] }
noncomputable def o_51 : Params → Obj := fun _ => { cls := Value.type "tuple", data := Data.seq #[] }
noncomputable def o_52 : Params → Obj := fun _ => { cls := Value.none, data := Data.fields #[] }
noncomputable def o_53 : Params → Obj := fun _ => { cls := Value.type "tuple", data := Data.seq #[Value.str (Str.ofString "k") 190] }
noncomputable def o_54 : Params → Obj := fun _ => { cls := Value.type "tuple", data := Data.seq #[] }
noncomputable def o_55 : Params → Obj := fun _ => { cls := Value.none, data := Data.func { name := Str.ofString "_wall", qualname := Str.ofString "_wall", params := (fnAt 0).fst, body := FuncBody.stmts (fnAt 0).snd.fst, scope := (fnAt 0).snd.snd, globals := 0, closure := [], defaults := Value.none, kwdefaults := Value.none } }
noncomputable def o_56 : Params → Obj := fun _ => { cls := Value.type "code", data := Data.fields #[Value.str (Str.ofString "_wall") 187, Value.str (Str.ofString "_wall") 188, Value.str (Str.ofString "/claim/cut.py") 189, Value.int 1 0, Value.int 1 0, Value.int 0 0, Value.int 0 0, Value.int 3 0, Value.ref 15, Value.bool true, Value.int 181 0, Value.ref 16, Value.none, Value.ref 17, Value.ref 18, Value.ref 19, Value.int 191 0, Value.int 1 0, Value.str (Str.ofString "/claim/cut.py") 192] }
noncomputable def o_57 : Params → Obj := fun _ => { cls := Value.type "function", data := Data.func { name := Str.ofString "_wall", qualname := Str.ofString "_wall", params := (fnAt 0).fst, body := FuncBody.stmts (fnAt 0).snd.fst, scope := (fnAt 0).snd.snd, globals := 3, closure := [], defaults := Value.none, kwdefaults := Value.none, pyModule := Value.str (Str.ofString "__main__") 164, code := Value.ref 20 } }
noncomputable def o_58 : Params → Obj := fun _ => { cls := Value.type "tuple", data := Data.seq #[] }
noncomputable def o_59 : Params → Obj := fun _ => { cls := Value.none, data := Data.fields #[] }
noncomputable def o_60 : Params → Obj := fun _ => { cls := Value.type "tuple", data := Data.seq #[Value.str (Str.ofString "address") 199, Value.str (Str.ofString "length") 200, Value.str (Str.ofString "bits") 201] }
noncomputable def o_61 : Params → Obj := fun _ => { cls := Value.type "tuple", data := Data.seq #[] }
noncomputable def o_62 : Params → Obj := fun _ => { cls := Value.none, data := Data.func { name := Str.ofString "first_bits", qualname := Str.ofString "first_bits", params := (fnAt 1).fst, body := FuncBody.stmts (fnAt 1).snd.fst, scope := (fnAt 1).snd.snd, globals := 0, closure := [], defaults := Value.none, kwdefaults := Value.none } }
noncomputable def o_63 : Params → Obj := fun _ => { cls := Value.type "code", data := Data.fields #[Value.str (Str.ofString "first_bits") 196, Value.str (Str.ofString "first_bits") 197, Value.str (Str.ofString "/claim/cut.py") 198, Value.int 5 0, Value.int 3 0, Value.int 0 0, Value.int 0 0, Value.int 3 0, Value.ref 22, Value.bool true, Value.int 181 0, Value.ref 23, Value.none, Value.ref 24, Value.ref 25, Value.ref 26, Value.int 202 0, Value.int 5 0, Value.str (Str.ofString "/claim/cut.py") 203] }
noncomputable def o_64 : Params → Obj := fun _ => { cls := Value.type "function", data := Data.func { name := Str.ofString "first_bits", qualname := Str.ofString "first_bits", params := (fnAt 1).fst, body := FuncBody.stmts (fnAt 1).snd.fst, scope := (fnAt 1).snd.snd, globals := 3, closure := [], defaults := Value.none, kwdefaults := Value.none, pyModule := Value.str (Str.ofString "routeloom.fibtree") 194, code := Value.ref 27 } }
noncomputable def o_65 : Params → Obj := fun _ => { cls := Value.type "tuple", data := Data.seq #[] }
noncomputable def o_66 : Params → Obj := fun _ => { cls := Value.none, data := Data.fields #[] }
noncomputable def o_67 : Params → Obj := fun _ => { cls := Value.type "tuple", data := Data.seq #[Value.str (Str.ofString "address") 208, Value.str (Str.ofString "place") 209, Value.str (Str.ofString "bits") 210] }
noncomputable def o_68 : Params → Obj := fun _ => { cls := Value.type "tuple", data := Data.seq #[] }
noncomputable def o_69 : Params → Obj := fun _ => { cls := Value.none, data := Data.func { name := Str.ofString "bit_of", qualname := Str.ofString "bit_of", params := (fnAt 2).fst, body := FuncBody.stmts (fnAt 2).snd.fst, scope := (fnAt 2).snd.snd, globals := 0, closure := [], defaults := Value.none, kwdefaults := Value.none } }
noncomputable def o_70 : Params → Obj := fun _ => { cls := Value.type "code", data := Data.fields #[Value.str (Str.ofString "bit_of") 205, Value.str (Str.ofString "bit_of") 206, Value.str (Str.ofString "/claim/cut.py") 207, Value.int 7 0, Value.int 3 0, Value.int 0 0, Value.int 0 0, Value.int 3 0, Value.ref 29, Value.bool true, Value.int 181 0, Value.ref 30, Value.none, Value.ref 31, Value.ref 32, Value.ref 33, Value.int 211 0, Value.int 7 0, Value.str (Str.ofString "/claim/cut.py") 212] }
noncomputable def o_71 : Params → Obj := fun _ => { cls := Value.type "function", data := Data.func { name := Str.ofString "bit_of", qualname := Str.ofString "bit_of", params := (fnAt 2).fst, body := FuncBody.stmts (fnAt 2).snd.fst, scope := (fnAt 2).snd.snd, globals := 3, closure := [], defaults := Value.none, kwdefaults := Value.none, pyModule := Value.str (Str.ofString "routeloom.fibtree") 194, code := Value.ref 34 } }
noncomputable def o_72 : Params → Obj := fun _ => { cls := Value.type "tuple", data := Data.seq #[] }
noncomputable def o_73 : Params → Obj := fun _ => { cls := Value.none, data := Data.fields #[] }
noncomputable def o_74 : Params → Obj := fun _ => { cls := Value.type "tuple", data := Data.seq #[Value.str (Str.ofString "one") 217, Value.str (Str.ofString "other") 218, Value.str (Str.ofString "bits") 219, Value.str (Str.ofString "most") 220, Value.str (Str.ofString "many") 221] }
noncomputable def o_75 : Params → Obj := fun _ => { cls := Value.type "tuple", data := Data.seq #[] }
noncomputable def o_76 : Params → Obj := fun _ => { cls := Value.none, data := Data.func { name := Str.ofString "shared_length", qualname := Str.ofString "shared_length", params := (fnAt 3).fst, body := FuncBody.stmts (fnAt 3).snd.fst, scope := (fnAt 3).snd.snd, globals := 0, closure := [], defaults := Value.none, kwdefaults := Value.none } }
noncomputable def o_77 : Params → Obj := fun _ => { cls := Value.type "code", data := Data.fields #[Value.str (Str.ofString "shared_length") 214, Value.str (Str.ofString "shared_length") 215, Value.str (Str.ofString "/claim/cut.py") 216, Value.int 9 0, Value.int 3 0, Value.int 0 0, Value.int 0 0, Value.int 3 0, Value.ref 36, Value.bool true, Value.int 181 0, Value.ref 37, Value.none, Value.ref 38, Value.ref 39, Value.ref 40, Value.int 222 0, Value.int 9 0, Value.str (Str.ofString "/claim/cut.py") 223] }
noncomputable def o_78 : Params → Obj := fun _ => { cls := Value.type "function", data := Data.func { name := Str.ofString "shared_length", qualname := Str.ofString "shared_length", params := (fnAt 3).fst, body := FuncBody.stmts (fnAt 3).snd.fst, scope := (fnAt 3).snd.snd, globals := 3, closure := [], defaults := Value.none, kwdefaults := Value.none, pyModule := Value.str (Str.ofString "routeloom.fibtree") 194, code := Value.ref 41 } }
noncomputable def o_79 : Params → Obj := fun _ => { cls := Value.type "tuple", data := Data.seq #[] }
noncomputable def o_80 : Params → Obj := fun _ => { cls := Value.none, data := Data.fields #[] }
noncomputable def o_81 : Params → Obj := fun _ => { cls := Value.type "tuple", data := Data.seq #[Value.str (Str.ofString "node") 228, Value.str (Str.ofString "place") 229, Value.str (Str.ofString "child") 230] }
noncomputable def o_82 : Params → Obj := fun _ => { cls := Value.type "tuple", data := Data.seq #[] }
noncomputable def o_83 : Params → Obj := fun _ => { cls := Value.none, data := Data.func { name := Str.ofString "with_child", qualname := Str.ofString "with_child", params := (fnAt 4).fst, body := FuncBody.stmts (fnAt 4).snd.fst, scope := (fnAt 4).snd.snd, globals := 0, closure := [], defaults := Value.none, kwdefaults := Value.none } }
noncomputable def o_84 : Params → Obj := fun _ => { cls := Value.type "code", data := Data.fields #[Value.str (Str.ofString "with_child") 225, Value.str (Str.ofString "with_child") 226, Value.str (Str.ofString "/claim/cut.py") 227, Value.int 14 0, Value.int 3 0, Value.int 0 0, Value.int 0 0, Value.int 3 0, Value.ref 43, Value.bool true, Value.int 181 0, Value.ref 44, Value.none, Value.ref 45, Value.ref 46, Value.ref 47, Value.int 231 0, Value.int 14 0, Value.str (Str.ofString "/claim/cut.py") 232] }
noncomputable def o_85 : Params → Obj := fun _ => { cls := Value.type "function", data := Data.func { name := Str.ofString "with_child", qualname := Str.ofString "with_child", params := (fnAt 4).fst, body := FuncBody.stmts (fnAt 4).snd.fst, scope := (fnAt 4).snd.snd, globals := 3, closure := [], defaults := Value.none, kwdefaults := Value.none, pyModule := Value.str (Str.ofString "routeloom.fibtree") 194, code := Value.ref 48 } }
noncomputable def o_86 : Params → Obj := fun _ => { cls := Value.type "tuple", data := Data.seq #[] }
noncomputable def o_87 : Params → Obj := fun _ => { cls := Value.none, data := Data.fields #[] }
noncomputable def o_88 : Params → Obj := fun _ => { cls := Value.type "tuple", data := Data.seq #[Value.str (Str.ofString "one") 237, Value.str (Str.ofString "other") 238, Value.str (Str.ofString "length") 239, Value.str (Str.ofString "bits") 240, Value.str (Str.ofString "node") 241] }
noncomputable def o_89 : Params → Obj := fun _ => { cls := Value.type "tuple", data := Data.seq #[] }
noncomputable def o_90 : Params → Obj := fun _ => { cls := Value.none, data := Data.func { name := Str.ofString "fork", qualname := Str.ofString "fork", params := (fnAt 5).fst, body := FuncBody.stmts (fnAt 5).snd.fst, scope := (fnAt 5).snd.snd, globals := 0, closure := [], defaults := Value.none, kwdefaults := Value.none } }
noncomputable def o_91 : Params → Obj := fun _ => { cls := Value.type "code", data := Data.fields #[Value.str (Str.ofString "fork") 234, Value.str (Str.ofString "fork") 235, Value.str (Str.ofString "/claim/cut.py") 236, Value.int 18 0, Value.int 4 0, Value.int 0 0, Value.int 0 0, Value.int 3 0, Value.ref 50, Value.bool true, Value.int 181 0, Value.ref 51, Value.none, Value.ref 52, Value.ref 53, Value.ref 54, Value.int 242 0, Value.int 18 0, Value.str (Str.ofString "/claim/cut.py") 243] }
noncomputable def o_92 : Params → Obj := fun _ => { cls := Value.type "function", data := Data.func { name := Str.ofString "fork", qualname := Str.ofString "fork", params := (fnAt 5).fst, body := FuncBody.stmts (fnAt 5).snd.fst, scope := (fnAt 5).snd.snd, globals := 3, closure := [], defaults := Value.none, kwdefaults := Value.none, pyModule := Value.str (Str.ofString "routeloom.fibtree") 194, code := Value.ref 55 } }
noncomputable def o_93 : Params → Obj := fun _ => { cls := Value.type "tuple", data := Data.seq #[] }
noncomputable def o_94 : Params → Obj := fun _ => { cls := Value.none, data := Data.fields #[] }
noncomputable def o_95 : Params → Obj := fun _ => { cls := Value.type "tuple", data := Data.seq #[Value.str (Str.ofString "tree") 248, Value.str (Str.ofString "prefix") 249, Value.str (Str.ofString "worth") 250, Value.str (Str.ofString "bits") 251, Value.str (Str.ofString "leaf") 252, Value.str (Str.ofString "here") 253, Value.str (Str.ofString "many") 254, Value.str (Str.ofString "place") 255] }
noncomputable def o_96 : Params → Obj := fun _ => { cls := Value.type "tuple", data := Data.seq #[] }
noncomputable def o_97 : Params → Obj := fun _ => { cls := Value.none, data := Data.func { name := Str.ofString "tree_put", qualname := Str.ofString "tree_put", params := (fnAt 6).fst, body := FuncBody.stmts (fnAt 6).snd.fst, scope := (fnAt 6).snd.snd, globals := 0, closure := [], defaults := Value.none, kwdefaults := Value.none } }
noncomputable def o_98 : Params → Obj := fun _ => { cls := Value.type "code", data := Data.fields #[Value.str (Str.ofString "tree_put") 245, Value.str (Str.ofString "tree_put") 246, Value.str (Str.ofString "/claim/cut.py") 247, Value.int 22 0, Value.int 4 0, Value.int 0 0, Value.int 0 0, Value.int 3 0, Value.ref 57, Value.bool true, Value.int 181 0, Value.ref 58, Value.none, Value.ref 59, Value.ref 60, Value.ref 61, Value.int 256 0, Value.int 22 0, Value.str (Str.ofString "/claim/cut.py") 257] }
noncomputable def o_99 : Params → Obj := fun _ => { cls := Value.type "function", data := Data.func { name := Str.ofString "tree_put", qualname := Str.ofString "tree_put", params := (fnAt 6).fst, body := FuncBody.stmts (fnAt 6).snd.fst, scope := (fnAt 6).snd.snd, globals := 3, closure := [], defaults := Value.none, kwdefaults := Value.none, pyModule := Value.str (Str.ofString "routeloom.fibtree") 194, code := Value.ref 62 } }
noncomputable def o_100 : Params → Obj := fun _ => { cls := Value.type "tuple", data := Data.seq #[] }
noncomputable def o_101 : Params → Obj := fun _ => { cls := Value.none, data := Data.fields #[] }
noncomputable def o_102 : Params → Obj := fun _ => { cls := Value.type "tuple", data := Data.seq #[Value.str (Str.ofString "node") 262] }
noncomputable def o_103 : Params → Obj := fun _ => { cls := Value.type "tuple", data := Data.seq #[] }
noncomputable def o_104 : Params → Obj := fun _ => { cls := Value.none, data := Data.func { name := Str.ofString "shrunk", qualname := Str.ofString "shrunk", params := (fnAt 7).fst, body := FuncBody.stmts (fnAt 7).snd.fst, scope := (fnAt 7).snd.snd, globals := 0, closure := [], defaults := Value.none, kwdefaults := Value.none } }
noncomputable def o_105 : Params → Obj := fun _ => { cls := Value.type "code", data := Data.fields #[Value.str (Str.ofString "shrunk") 259, Value.str (Str.ofString "shrunk") 260, Value.str (Str.ofString "/claim/cut.py") 261, Value.int 35 0, Value.int 1 0, Value.int 0 0, Value.int 0 0, Value.int 3 0, Value.ref 64, Value.bool true, Value.int 181 0, Value.ref 65, Value.none, Value.ref 66, Value.ref 67, Value.ref 68, Value.int 263 0, Value.int 35 0, Value.str (Str.ofString "/claim/cut.py") 264] }
noncomputable def o_106 : Params → Obj := fun _ => { cls := Value.type "function", data := Data.func { name := Str.ofString "shrunk", qualname := Str.ofString "shrunk", params := (fnAt 7).fst, body := FuncBody.stmts (fnAt 7).snd.fst, scope := (fnAt 7).snd.snd, globals := 3, closure := [], defaults := Value.none, kwdefaults := Value.none, pyModule := Value.str (Str.ofString "routeloom.fibtree") 194, code := Value.ref 69 } }
noncomputable def o_107 : Params → Obj := fun _ => { cls := Value.type "tuple", data := Data.seq #[] }
noncomputable def o_108 : Params → Obj := fun _ => { cls := Value.none, data := Data.fields #[] }
noncomputable def o_109 : Params → Obj := fun _ => { cls := Value.type "tuple", data := Data.seq #[Value.str (Str.ofString "tree") 269, Value.str (Str.ofString "prefix") 270, Value.str (Str.ofString "bits") 271, Value.str (Str.ofString "here") 272, Value.str (Str.ofString "many") 273, Value.str (Str.ofString "place") 274] }
noncomputable def o_110 : Params → Obj := fun _ => { cls := Value.type "tuple", data := Data.seq #[] }
noncomputable def o_111 : Params → Obj := fun _ => { cls := Value.none, data := Data.func { name := Str.ofString "tree_drop", qualname := Str.ofString "tree_drop", params := (fnAt 8).fst, body := FuncBody.stmts (fnAt 8).snd.fst, scope := (fnAt 8).snd.snd, globals := 0, closure := [], defaults := Value.none, kwdefaults := Value.none } }
noncomputable def o_112 : Params → Obj := fun _ => { cls := Value.type "code", data := Data.fields #[Value.str (Str.ofString "tree_drop") 266, Value.str (Str.ofString "tree_drop") 267, Value.str (Str.ofString "/claim/cut.py") 268, Value.int 39 0, Value.int 3 0, Value.int 0 0, Value.int 0 0, Value.int 3 0, Value.ref 71, Value.bool true, Value.int 181 0, Value.ref 72, Value.none, Value.ref 73, Value.ref 74, Value.ref 75, Value.int 275 0, Value.int 39 0, Value.str (Str.ofString "/claim/cut.py") 276] }
noncomputable def o_113 : Params → Obj := fun _ => { cls := Value.type "function", data := Data.func { name := Str.ofString "tree_drop", qualname := Str.ofString "tree_drop", params := (fnAt 8).fst, body := FuncBody.stmts (fnAt 8).snd.fst, scope := (fnAt 8).snd.snd, globals := 3, closure := [], defaults := Value.none, kwdefaults := Value.none, pyModule := Value.str (Str.ofString "routeloom.fibtree") 194, code := Value.ref 76 } }
noncomputable def o_114 : Params → Obj := fun _ => { cls := Value.type "tuple", data := Data.seq #[] }
noncomputable def o_115 : Params → Obj := fun _ => { cls := Value.none, data := Data.fields #[] }
noncomputable def o_116 : Params → Obj := fun _ => { cls := Value.type "tuple", data := Data.seq #[Value.str (Str.ofString "tree") 281, Value.str (Str.ofString "address") 282, Value.str (Str.ofString "bits") 283, Value.str (Str.ofString "found") 284, Value.str (Str.ofString "node") 285] }
noncomputable def o_117 : Params → Obj := fun _ => { cls := Value.type "tuple", data := Data.seq #[] }
noncomputable def o_118 : Params → Obj := fun _ => { cls := Value.none, data := Data.func { name := Str.ofString "tree_look", qualname := Str.ofString "tree_look", params := (fnAt 9).fst, body := FuncBody.stmts (fnAt 9).snd.fst, scope := (fnAt 9).snd.snd, globals := 0, closure := [], defaults := Value.none, kwdefaults := Value.none } }
noncomputable def o_119 : Params → Obj := fun _ => { cls := Value.type "code", data := Data.fields #[Value.str (Str.ofString "tree_look") 278, Value.str (Str.ofString "tree_look") 279, Value.str (Str.ofString "/claim/cut.py") 280, Value.int 49 0, Value.int 3 0, Value.int 0 0, Value.int 0 0, Value.int 3 0, Value.ref 78, Value.bool true, Value.int 181 0, Value.ref 79, Value.none, Value.ref 80, Value.ref 81, Value.ref 82, Value.int 286 0, Value.int 49 0, Value.str (Str.ofString "/claim/cut.py") 287] }
noncomputable def o_120 : Params → Obj := fun _ => { cls := Value.type "function", data := Data.func { name := Str.ofString "tree_look", qualname := Str.ofString "tree_look", params := (fnAt 9).fst, body := FuncBody.stmts (fnAt 9).snd.fst, scope := (fnAt 9).snd.snd, globals := 3, closure := [], defaults := Value.none, kwdefaults := Value.none, pyModule := Value.str (Str.ofString "routeloom.fibtree") 194, code := Value.ref 83 } }
noncomputable def o_121 : Params → Obj := fun _ => { cls := Value.type "tuple", data := Data.seq #[] }
noncomputable def o_122 : Params → Obj := fun _ => { cls := Value.none, data := Data.fields #[] }
noncomputable def o_123 : Params → Obj := fun _ => { cls := Value.type "tuple", data := Data.seq #[Value.str (Str.ofString "tree") 292, Value.str (Str.ofString "prefix") 293, Value.str (Str.ofString "bits") 294, Value.str (Str.ofString "node") 295] }
noncomputable def o_124 : Params → Obj := fun _ => { cls := Value.type "tuple", data := Data.seq #[] }
noncomputable def o_125 : Params → Obj := fun _ => { cls := Value.none, data := Data.func { name := Str.ofString "tree_exact", qualname := Str.ofString "tree_exact", params := (fnAt 10).fst, body := FuncBody.stmts (fnAt 10).snd.fst, scope := (fnAt 10).snd.snd, globals := 0, closure := [], defaults := Value.none, kwdefaults := Value.none } }
noncomputable def o_126 : Params → Obj := fun _ => { cls := Value.type "code", data := Data.fields #[Value.str (Str.ofString "tree_exact") 289, Value.str (Str.ofString "tree_exact") 290, Value.str (Str.ofString "/claim/cut.py") 291, Value.int 56 0, Value.int 3 0, Value.int 0 0, Value.int 0 0, Value.int 3 0, Value.ref 85, Value.bool true, Value.int 181 0, Value.ref 86, Value.none, Value.ref 87, Value.ref 88, Value.ref 89, Value.int 296 0, Value.int 56 0, Value.str (Str.ofString "/claim/cut.py") 297] }
noncomputable def o_127 : Params → Obj := fun _ => { cls := Value.type "function", data := Data.func { name := Str.ofString "tree_exact", qualname := Str.ofString "tree_exact", params := (fnAt 10).fst, body := FuncBody.stmts (fnAt 10).snd.fst, scope := (fnAt 10).snd.snd, globals := 3, closure := [], defaults := Value.none, kwdefaults := Value.none, pyModule := Value.str (Str.ofString "routeloom.fibtree") 194, code := Value.ref 90 } }
noncomputable def o_128 : Params → Obj := fun _ => { cls := Value.type "tuple", data := Data.seq #[] }
noncomputable def o_129 : Params → Obj := fun _ => { cls := Value.none, data := Data.fields #[] }
noncomputable def o_130 : Params → Obj := fun _ => { cls := Value.type "tuple", data := Data.seq #[Value.str (Str.ofString "tree") 302, Value.str (Str.ofString "own") 303] }
noncomputable def o_131 : Params → Obj := fun _ => { cls := Value.type "tuple", data := Data.seq #[] }
noncomputable def o_132 : Params → Obj := fun _ => { cls := Value.none, data := Data.func { name := Str.ofString "tree_all", qualname := Str.ofString "tree_all", params := (fnAt 11).fst, body := FuncBody.stmts (fnAt 11).snd.fst, scope := (fnAt 11).snd.snd, globals := 0, closure := [], defaults := Value.none, kwdefaults := Value.none } }
noncomputable def o_133 : Params → Obj := fun _ => { cls := Value.type "code", data := Data.fields #[Value.str (Str.ofString "tree_all") 299, Value.str (Str.ofString "tree_all") 300, Value.str (Str.ofString "/claim/cut.py") 301, Value.int 61 0, Value.int 1 0, Value.int 0 0, Value.int 0 0, Value.int 3 0, Value.ref 92, Value.bool true, Value.int 181 0, Value.ref 93, Value.none, Value.ref 94, Value.ref 95, Value.ref 96, Value.int 304 0, Value.int 61 0, Value.str (Str.ofString "/claim/cut.py") 305] }
noncomputable def o_134 : Params → Obj := fun _ => { cls := Value.type "function", data := Data.func { name := Str.ofString "tree_all", qualname := Str.ofString "tree_all", params := (fnAt 11).fst, body := FuncBody.stmts (fnAt 11).snd.fst, scope := (fnAt 11).snd.snd, globals := 3, closure := [], defaults := Value.none, kwdefaults := Value.none, pyModule := Value.str (Str.ofString "routeloom.fibtree") 194, code := Value.ref 97 } }
noncomputable def o_135 : Params → Obj := fun P => { cls := Value.type "dict", data := Data.dict #[{ hash := PyData.keyHash P (Str.ofString "__name__"), key := Value.str (Str.ofString "__name__") 165, val := Value.str (Str.ofString "routeloom.fibtree") 194 }, { hash := PyData.keyHash P (Str.ofString "__doc__"), key := Value.str (Str.ofString "__doc__") 166, val := Value.none }, { hash := PyData.keyHash P (Str.ofString "__package__"), key := Value.str (Str.ofString "__package__") 167, val := Value.none }, { hash := PyData.keyHash P (Str.ofString "__loader__"), key := Value.str (Str.ofString "__loader__") 168, val := Value.builtin ldr }, { hash := PyData.keyHash P (Str.ofString "__spec__"), key := Value.str (Str.ofString "__spec__") 169, val := Value.none }, { hash := PyData.keyHash P (Str.ofString "__annotations__"), key := Value.str (Str.ofString "__annotations__") 170, val := Value.ref 6 }, { hash := PyData.keyHash P (Str.ofString "__builtins__"), key := Value.str (Str.ofString "__builtins__") 171, val := Value.ref 4 }, { hash := PyData.keyHash P (Str.ofString "__file__"), key := Value.str (Str.ofString "__file__") 173, val := Value.str (Str.ofString "/claim/cut.py") 172 }, { hash := PyData.keyHash P (Str.ofString "__cached__"), key := Value.str (Str.ofString "__cached__") 174, val := Value.none }, { hash := PyData.keyHash P (Str.ofString "_wall"), key := Value.str (Str.ofString "_wall") 193, val := Value.ref 21 }, { hash := PyData.keyHash P (Str.ofString "first_bits"), key := Value.str (Str.ofString "first_bits") 204, val := Value.ref 28 }, { hash := PyData.keyHash P (Str.ofString "bit_of"), key := Value.str (Str.ofString "bit_of") 213, val := Value.ref 35 }, { hash := PyData.keyHash P (Str.ofString "shared_length"), key := Value.str (Str.ofString "shared_length") 224, val := Value.ref 42 }, { hash := PyData.keyHash P (Str.ofString "with_child"), key := Value.str (Str.ofString "with_child") 233, val := Value.ref 49 }, { hash := PyData.keyHash P (Str.ofString "fork"), key := Value.str (Str.ofString "fork") 244, val := Value.ref 56 }, { hash := PyData.keyHash P (Str.ofString "tree_put"), key := Value.str (Str.ofString "tree_put") 258, val := Value.ref 63 }, { hash := PyData.keyHash P (Str.ofString "shrunk"), key := Value.str (Str.ofString "shrunk") 265, val := Value.ref 70 }, { hash := PyData.keyHash P (Str.ofString "tree_drop"), key := Value.str (Str.ofString "tree_drop") 277, val := Value.ref 77 }, { hash := PyData.keyHash P (Str.ofString "tree_look"), key := Value.str (Str.ofString "tree_look") 288, val := Value.ref 84 }, { hash := PyData.keyHash P (Str.ofString "tree_exact"), key := Value.str (Str.ofString "tree_exact") 298, val := Value.ref 91 }, { hash := PyData.keyHash P (Str.ofString "tree_all"), key := Value.str (Str.ofString "tree_all") 306, val := Value.ref 98 }, { hash := PyData.keyHash P (Str.ofString "node_count"), key := Value.str (Str.ofString "node_count") 313, val := Value.ref 105 }] 22 }
noncomputable def o_136 : Params → Obj := fun _ => { cls := Value.none, data := Data.fields #[Value.int 1 0, Value.int 0 0, Value.ref 20, Value.int 5 0, Value.int 0 0, Value.ref 27, Value.int 7 0, Value.int 0 0, Value.ref 34, Value.int 9 0, Value.int 0 0, Value.ref 41, Value.int 14 0, Value.int 0 0, Value.ref 48, Value.int 18 0, Value.int 0 0, Value.ref 55, Value.int 22 0, Value.int 0 0, Value.ref 62, Value.int 35 0, Value.int 0 0, Value.ref 69, Value.int 39 0, Value.int 0 0, Value.ref 76, Value.int 49 0, Value.int 0 0, Value.ref 83, Value.int 56 0, Value.int 0 0, Value.ref 90, Value.int 61 0, Value.int 0 0, Value.ref 97, Value.int 66 0, Value.int 0 0, Value.ref 104] }
noncomputable def o_137 : Params → Obj := fun _ => { cls := Value.type "tuple", data := Data.seq #[] }
noncomputable def o_138 : Params → Obj := fun _ => { cls := Value.none, data := Data.fields #[] }
noncomputable def o_139 : Params → Obj := fun _ => { cls := Value.type "tuple", data := Data.seq #[Value.str (Str.ofString "tree") 310] }
noncomputable def o_140 : Params → Obj := fun _ => { cls := Value.type "tuple", data := Data.seq #[] }
noncomputable def o_141 : Params → Obj := fun _ => { cls := Value.none, data := Data.func { name := Str.ofString "node_count", qualname := Str.ofString "node_count", params := (fnAt 12).fst, body := FuncBody.stmts (fnAt 12).snd.fst, scope := (fnAt 12).snd.snd, globals := 0, closure := [], defaults := Value.none, kwdefaults := Value.none } }
noncomputable def o_142 : Params → Obj := fun _ => { cls := Value.type "code", data := Data.fields #[Value.str (Str.ofString "node_count") 307, Value.str (Str.ofString "node_count") 308, Value.str (Str.ofString "/claim/cut.py") 309, Value.int 66 0, Value.int 1 0, Value.int 0 0, Value.int 0 0, Value.int 3 0, Value.ref 99, Value.bool true, Value.int 181 0, Value.ref 100, Value.none, Value.ref 101, Value.ref 102, Value.ref 103, Value.int 311 0, Value.int 66 0, Value.str (Str.ofString "/claim/cut.py") 312] }
noncomputable def o_143 : Params → Obj := fun _ => { cls := Value.type "function", data := Data.func { name := Str.ofString "node_count", qualname := Str.ofString "node_count", params := (fnAt 12).fst, body := FuncBody.stmts (fnAt 12).snd.fst, scope := (fnAt 12).snd.snd, globals := 3, closure := [], defaults := Value.none, kwdefaults := Value.none, pyModule := Value.str (Str.ofString "routeloom.fibtree") 194, code := Value.ref 104 } }
noncomputable def o_144 : Params → Obj := fun P => { cls := Value.type "dict", data := Data.dict #[{ hash := PyData.keyHash P (Str.ofString "__name__"), key := Value.str (Str.ofString "__name__") 165, val := Value.str (Str.ofString "law_sj0175_01") 385 }, { hash := PyData.keyHash P (Str.ofString "__doc__"), key := Value.str (Str.ofString "__doc__") 166, val := Value.none }, { hash := PyData.keyHash P (Str.ofString "__package__"), key := Value.str (Str.ofString "__package__") 167, val := Value.none }, { hash := PyData.keyHash P (Str.ofString "__loader__"), key := Value.str (Str.ofString "__loader__") 168, val := Value.builtin ldr }, { hash := PyData.keyHash P (Str.ofString "__spec__"), key := Value.str (Str.ofString "__spec__") 169, val := Value.none }, { hash := PyData.keyHash P (Str.ofString "__annotations__"), key := Value.str (Str.ofString "__annotations__") 170, val := Value.ref 6 }, { hash := PyData.keyHash P (Str.ofString "__builtins__"), key := Value.str (Str.ofString "__builtins__") 171, val := Value.ref 4 }, { hash := PyData.keyHash P (Str.ofString "__file__"), key := Value.str (Str.ofString "__file__") 173, val := Value.str (Str.ofString "/claim/cut.py") 172 }, { hash := PyData.keyHash P (Str.ofString "__cached__"), key := Value.str (Str.ofString "__cached__") 174, val := Value.none }, { hash := PyData.keyHash P (Str.ofString "_wall"), key := Value.str (Str.ofString "_wall") 193, val := Value.ref 21 }, { hash := PyData.keyHash P (Str.ofString "first_bits"), key := Value.str (Str.ofString "first_bits") 204, val := Value.ref 28 }, { hash := PyData.keyHash P (Str.ofString "bit_of"), key := Value.str (Str.ofString "bit_of") 213, val := Value.ref 35 }, { hash := PyData.keyHash P (Str.ofString "shared_length"), key := Value.str (Str.ofString "shared_length") 224, val := Value.ref 42 }, { hash := PyData.keyHash P (Str.ofString "with_child"), key := Value.str (Str.ofString "with_child") 233, val := Value.ref 49 }, { hash := PyData.keyHash P (Str.ofString "fork"), key := Value.str (Str.ofString "fork") 244, val := Value.ref 56 }, { hash := PyData.keyHash P (Str.ofString "tree_put"), key := Value.str (Str.ofString "tree_put") 258, val := Value.ref 63 }, { hash := PyData.keyHash P (Str.ofString "shrunk"), key := Value.str (Str.ofString "shrunk") 265, val := Value.ref 70 }, { hash := PyData.keyHash P (Str.ofString "tree_drop"), key := Value.str (Str.ofString "tree_drop") 277, val := Value.ref 77 }, { hash := PyData.keyHash P (Str.ofString "tree_look"), key := Value.str (Str.ofString "tree_look") 288, val := Value.ref 84 }, { hash := PyData.keyHash P (Str.ofString "tree_exact"), key := Value.str (Str.ofString "tree_exact") 298, val := Value.ref 91 }, { hash := PyData.keyHash P (Str.ofString "tree_all"), key := Value.str (Str.ofString "tree_all") 306, val := Value.ref 98 }, { hash := PyData.keyHash P (Str.ofString "node_count"), key := Value.str (Str.ofString "node_count") 313, val := Value.ref 105 }, { hash := PyData.keyHash P (Str.ofString "FibTree"), key := Value.str (Str.ofString "FibTree") 384, val := Value.ref 157 }] 23 }
noncomputable def o_145 : Params → Obj := fun _ => { cls := Value.none, data := Data.fields #[Value.int 1 0, Value.int 0 0, Value.ref 20, Value.int 5 0, Value.int 0 0, Value.ref 27, Value.int 7 0, Value.int 0 0, Value.ref 34, Value.int 9 0, Value.int 0 0, Value.ref 41, Value.int 14 0, Value.int 0 0, Value.ref 48, Value.int 18 0, Value.int 0 0, Value.ref 55, Value.int 22 0, Value.int 0 0, Value.ref 62, Value.int 35 0, Value.int 0 0, Value.ref 69, Value.int 39 0, Value.int 0 0, Value.ref 76, Value.int 49 0, Value.int 0 0, Value.ref 83, Value.int 56 0, Value.int 0 0, Value.ref 90, Value.int 61 0, Value.int 0 0, Value.ref 97, Value.int 66 0, Value.int 0 0, Value.ref 104, Value.int 68 0, Value.int 0 0, Value.ref 111] }
noncomputable def o_146 : Params → Obj := fun _ => { cls := Value.type "tuple", data := Data.seq #[] }
noncomputable def o_147 : Params → Obj := fun _ => { cls := Value.type "builtin_function_or_method", data := Data.fields #[Value.builtin "type.__prepare__", Value.type "type"] }
noncomputable def o_148 : Params → Obj := fun P => { cls := Value.type "dict", data := Data.dict #[{ hash := PyData.keyHash P (Str.ofString "__module__"), key := Value.str (Str.ofString "__module__") 321, val := Value.str (Str.ofString "routeloom.fibtree") 194 }, { hash := PyData.keyHash P (Str.ofString "__qualname__"), key := Value.str (Str.ofString "__qualname__") 323, val := Value.str (Str.ofString "FibTree") 322 }, { hash := PyData.keyHash P (Str.ofString "__firstlineno__"), key := Value.str (Str.ofString "__firstlineno__") 325, val := Value.int 68 324 }, { hash := PyData.keyHash P (Str.ofString "__init__"), key := Value.str (Str.ofString "__init__") 333, val := Value.ref 119 }, { hash := PyData.keyHash P (Str.ofString "put"), key := Value.str (Str.ofString "put") 342, val := Value.ref 126 }, { hash := PyData.keyHash P (Str.ofString "drop"), key := Value.str (Str.ofString "drop") 351, val := Value.ref 133 }, { hash := PyData.keyHash P (Str.ofString "look"), key := Value.str (Str.ofString "look") 359, val := Value.ref 140 }, { hash := PyData.keyHash P (Str.ofString "exact"), key := Value.str (Str.ofString "exact") 367, val := Value.ref 147 }, { hash := PyData.keyHash P (Str.ofString "rows"), key := Value.str (Str.ofString "rows") 374, val := Value.ref 154 }, { hash := PyData.keyHash P (Str.ofString "__static_attributes__"), key := Value.str (Str.ofString "__static_attributes__") 377, val := Value.ref 155 }] 10 }
noncomputable def o_149 : Params → Obj := fun _ => { cls := Value.type "tuple", data := Data.seq #[] }
noncomputable def o_150 : Params → Obj := fun _ => { cls := Value.none, data := Data.fields #[Value.int 70 0, Value.int 4 0, Value.ref 118, Value.int 74 0, Value.int 4 0, Value.ref 125, Value.int 77 0, Value.int 4 0, Value.ref 132, Value.int 82 0, Value.int 4 0, Value.ref 139, Value.int 85 0, Value.int 4 0, Value.ref 146, Value.int 88 0, Value.int 4 0, Value.ref 153] }
noncomputable def o_151 : Params → Obj := fun _ => { cls := Value.type "code", data := Data.fields #[Value.str (Str.ofString "FibTree") 316, Value.str (Str.ofString "FibTree") 317, Value.str (Str.ofString "/claim/cut.py") 318, Value.int 68 0, Value.int 0 0, Value.int 0 0, Value.int 0 0, Value.int 0 0, Value.ref 109, Value.bool false, Value.int 181 0, Value.ref 110, Value.none, Value.none, Value.none, Value.none, Value.int 319 0, Value.int 68 0, Value.str (Str.ofString "/claim/cut.py") 320] }
noncomputable def o_152 : Params → Obj := fun _ => { cls := Value.type "frame", slots := #[some (Value.ref 111), some (Value.ref 3), some (Value.ref 108), none, some (Value.str (Str.ofString "routeloom.fibtree") 194), none, some (Value.ref 0)] }
noncomputable def o_153 : Params → Obj := fun _ => { cls := Value.type "tuple", data := Data.seq #[] }
noncomputable def o_154 : Params → Obj := fun _ => { cls := Value.none, data := Data.fields #[] }
noncomputable def o_155 : Params → Obj := fun _ => { cls := Value.type "tuple", data := Data.seq #[Value.str (Str.ofString "self") 329, Value.str (Str.ofString "bits") 330] }
noncomputable def o_156 : Params → Obj := fun _ => { cls := Value.type "tuple", data := Data.seq #[] }
noncomputable def o_157 : Params → Obj := fun _ => { cls := Value.none, data := Data.func { name := Str.ofString "__init__", qualname := Str.ofString "FibTree.__init__", params := (fnAt 13).fst, body := FuncBody.stmts (fnAt 13).snd.fst, scope := (fnAt 13).snd.snd, globals := 0, closure := [], defaults := Value.none, kwdefaults := Value.none } }
noncomputable def o_158 : Params → Obj := fun _ => { cls := Value.type "code", data := Data.fields #[Value.str (Str.ofString "__init__") 326, Value.str (Str.ofString "FibTree.__init__") 327, Value.str (Str.ofString "/claim/cut.py") 328, Value.int 70 0, Value.int 2 0, Value.int 0 0, Value.int 0 0, Value.int 3 0, Value.ref 113, Value.bool true, Value.int 181 0, Value.ref 114, Value.none, Value.ref 115, Value.ref 116, Value.ref 117, Value.int 331 0, Value.int 70 0, Value.str (Str.ofString "/claim/cut.py") 332] }
noncomputable def o_159 : Params → Obj := fun _ => { cls := Value.type "function", data := Data.func { name := Str.ofString "__init__", qualname := Str.ofString "FibTree.__init__", params := (fnAt 13).fst, body := FuncBody.stmts (fnAt 13).snd.fst, scope := (fnAt 13).snd.snd, globals := 3, closure := [], defaults := Value.none, kwdefaults := Value.none, pyModule := Value.str (Str.ofString "routeloom.fibtree") 194, code := Value.ref 118 } }
noncomputable def o_160 : Params → Obj := fun _ => { cls := Value.type "tuple", data := Data.seq #[] }
noncomputable def o_161 : Params → Obj := fun _ => { cls := Value.none, data := Data.fields #[] }
noncomputable def o_162 : Params → Obj := fun _ => { cls := Value.type "tuple", data := Data.seq #[Value.str (Str.ofString "self") 337, Value.str (Str.ofString "prefix") 338, Value.str (Str.ofString "worth") 339] }
noncomputable def o_163 : Params → Obj := fun _ => { cls := Value.type "tuple", data := Data.seq #[] }
noncomputable def o_164 : Params → Obj := fun _ => { cls := Value.none, data := Data.func { name := Str.ofString "put", qualname := Str.ofString "FibTree.put", params := (fnAt 14).fst, body := FuncBody.stmts (fnAt 14).snd.fst, scope := (fnAt 14).snd.snd, globals := 0, closure := [], defaults := Value.none, kwdefaults := Value.none } }
noncomputable def o_165 : Params → Obj := fun _ => { cls := Value.type "code", data := Data.fields #[Value.str (Str.ofString "put") 334, Value.str (Str.ofString "FibTree.put") 335, Value.str (Str.ofString "/claim/cut.py") 336, Value.int 74 0, Value.int 3 0, Value.int 0 0, Value.int 0 0, Value.int 3 0, Value.ref 120, Value.bool true, Value.int 181 0, Value.ref 121, Value.none, Value.ref 122, Value.ref 123, Value.ref 124, Value.int 340 0, Value.int 74 0, Value.str (Str.ofString "/claim/cut.py") 341] }
noncomputable def o_166 : Params → Obj := fun _ => { cls := Value.type "function", data := Data.func { name := Str.ofString "put", qualname := Str.ofString "FibTree.put", params := (fnAt 14).fst, body := FuncBody.stmts (fnAt 14).snd.fst, scope := (fnAt 14).snd.snd, globals := 3, closure := [], defaults := Value.none, kwdefaults := Value.none, pyModule := Value.str (Str.ofString "routeloom.fibtree") 194, code := Value.ref 125 } }
noncomputable def o_167 : Params → Obj := fun _ => { cls := Value.type "tuple", data := Data.seq #[] }
noncomputable def o_168 : Params → Obj := fun _ => { cls := Value.none, data := Data.fields #[] }
noncomputable def o_169 : Params → Obj := fun _ => { cls := Value.type "tuple", data := Data.seq #[Value.str (Str.ofString "self") 346, Value.str (Str.ofString "prefix") 347, Value.str (Str.ofString "had") 348] }
noncomputable def o_170 : Params → Obj := fun _ => { cls := Value.type "tuple", data := Data.seq #[] }
noncomputable def o_171 : Params → Obj := fun _ => { cls := Value.none, data := Data.func { name := Str.ofString "drop", qualname := Str.ofString "FibTree.drop", params := (fnAt 15).fst, body := FuncBody.stmts (fnAt 15).snd.fst, scope := (fnAt 15).snd.snd, globals := 0, closure := [], defaults := Value.none, kwdefaults := Value.none } }
noncomputable def o_172 : Params → Obj := fun _ => { cls := Value.type "code", data := Data.fields #[Value.str (Str.ofString "drop") 343, Value.str (Str.ofString "FibTree.drop") 344, Value.str (Str.ofString "/claim/cut.py") 345, Value.int 77 0, Value.int 2 0, Value.int 0 0, Value.int 0 0, Value.int 3 0, Value.ref 127, Value.bool true, Value.int 181 0, Value.ref 128, Value.none, Value.ref 129, Value.ref 130, Value.ref 131, Value.int 349 0, Value.int 77 0, Value.str (Str.ofString "/claim/cut.py") 350] }
noncomputable def o_173 : Params → Obj := fun _ => { cls := Value.type "function", data := Data.func { name := Str.ofString "drop", qualname := Str.ofString "FibTree.drop", params := (fnAt 15).fst, body := FuncBody.stmts (fnAt 15).snd.fst, scope := (fnAt 15).snd.snd, globals := 3, closure := [], defaults := Value.none, kwdefaults := Value.none, pyModule := Value.str (Str.ofString "routeloom.fibtree") 194, code := Value.ref 132 } }
noncomputable def o_174 : Params → Obj := fun _ => { cls := Value.type "tuple", data := Data.seq #[] }
noncomputable def o_175 : Params → Obj := fun _ => { cls := Value.none, data := Data.fields #[] }
noncomputable def o_176 : Params → Obj := fun _ => { cls := Value.type "tuple", data := Data.seq #[Value.str (Str.ofString "self") 355, Value.str (Str.ofString "address") 356] }
noncomputable def o_177 : Params → Obj := fun _ => { cls := Value.type "tuple", data := Data.seq #[] }
noncomputable def o_178 : Params → Obj := fun _ => { cls := Value.none, data := Data.func { name := Str.ofString "look", qualname := Str.ofString "FibTree.look", params := (fnAt 16).fst, body := FuncBody.stmts (fnAt 16).snd.fst, scope := (fnAt 16).snd.snd, globals := 0, closure := [], defaults := Value.none, kwdefaults := Value.none } }
noncomputable def o_179 : Params → Obj := fun _ => { cls := Value.type "code", data := Data.fields #[Value.str (Str.ofString "look") 352, Value.str (Str.ofString "FibTree.look") 353, Value.str (Str.ofString "/claim/cut.py") 354, Value.int 82 0, Value.int 2 0, Value.int 0 0, Value.int 0 0, Value.int 3 0, Value.ref 134, Value.bool true, Value.int 181 0, Value.ref 135, Value.none, Value.ref 136, Value.ref 137, Value.ref 138, Value.int 357 0, Value.int 82 0, Value.str (Str.ofString "/claim/cut.py") 358] }
noncomputable def o_180 : Params → Obj := fun _ => { cls := Value.type "function", data := Data.func { name := Str.ofString "look", qualname := Str.ofString "FibTree.look", params := (fnAt 16).fst, body := FuncBody.stmts (fnAt 16).snd.fst, scope := (fnAt 16).snd.snd, globals := 3, closure := [], defaults := Value.none, kwdefaults := Value.none, pyModule := Value.str (Str.ofString "routeloom.fibtree") 194, code := Value.ref 139 } }
noncomputable def o_181 : Params → Obj := fun _ => { cls := Value.type "tuple", data := Data.seq #[] }
noncomputable def o_182 : Params → Obj := fun _ => { cls := Value.none, data := Data.fields #[] }
noncomputable def o_183 : Params → Obj := fun _ => { cls := Value.type "tuple", data := Data.seq #[Value.str (Str.ofString "self") 363, Value.str (Str.ofString "prefix") 364] }
noncomputable def o_184 : Params → Obj := fun _ => { cls := Value.type "tuple", data := Data.seq #[] }
noncomputable def o_185 : Params → Obj := fun _ => { cls := Value.none, data := Data.func { name := Str.ofString "exact", qualname := Str.ofString "FibTree.exact", params := (fnAt 17).fst, body := FuncBody.stmts (fnAt 17).snd.fst, scope := (fnAt 17).snd.snd, globals := 0, closure := [], defaults := Value.none, kwdefaults := Value.none } }
noncomputable def o_186 : Params → Obj := fun _ => { cls := Value.type "code", data := Data.fields #[Value.str (Str.ofString "exact") 360, Value.str (Str.ofString "FibTree.exact") 361, Value.str (Str.ofString "/claim/cut.py") 362, Value.int 85 0, Value.int 2 0, Value.int 0 0, Value.int 0 0, Value.int 3 0, Value.ref 141, Value.bool true, Value.int 181 0, Value.ref 142, Value.none, Value.ref 143, Value.ref 144, Value.ref 145, Value.int 365 0, Value.int 85 0, Value.str (Str.ofString "/claim/cut.py") 366] }
noncomputable def o_187 : Params → Obj := fun _ => { cls := Value.type "function", data := Data.func { name := Str.ofString "exact", qualname := Str.ofString "FibTree.exact", params := (fnAt 17).fst, body := FuncBody.stmts (fnAt 17).snd.fst, scope := (fnAt 17).snd.snd, globals := 3, closure := [], defaults := Value.none, kwdefaults := Value.none, pyModule := Value.str (Str.ofString "routeloom.fibtree") 194, code := Value.ref 146 } }
noncomputable def o_188 : Params → Obj := fun _ => { cls := Value.type "tuple", data := Data.seq #[] }
noncomputable def o_189 : Params → Obj := fun _ => { cls := Value.none, data := Data.fields #[] }
noncomputable def o_190 : Params → Obj := fun _ => { cls := Value.type "tuple", data := Data.seq #[Value.str (Str.ofString "self") 371] }
noncomputable def o_191 : Params → Obj := fun _ => { cls := Value.type "tuple", data := Data.seq #[] }
noncomputable def o_192 : Params → Obj := fun _ => { cls := Value.none, data := Data.func { name := Str.ofString "rows", qualname := Str.ofString "FibTree.rows", params := (fnAt 18).fst, body := FuncBody.stmts (fnAt 18).snd.fst, scope := (fnAt 18).snd.snd, globals := 0, closure := [], defaults := Value.none, kwdefaults := Value.none } }
noncomputable def o_193 : Params → Obj := fun _ => { cls := Value.type "code", data := Data.fields #[Value.str (Str.ofString "rows") 368, Value.str (Str.ofString "FibTree.rows") 369, Value.str (Str.ofString "/claim/cut.py") 370, Value.int 88 0, Value.int 1 0, Value.int 0 0, Value.int 0 0, Value.int 3 0, Value.ref 148, Value.bool true, Value.int 181 0, Value.ref 149, Value.none, Value.ref 150, Value.ref 151, Value.ref 152, Value.int 372 0, Value.int 88 0, Value.str (Str.ofString "/claim/cut.py") 373] }
noncomputable def o_194 : Params → Obj := fun _ => { cls := Value.type "function", data := Data.func { name := Str.ofString "rows", qualname := Str.ofString "FibTree.rows", params := (fnAt 18).fst, body := FuncBody.stmts (fnAt 18).snd.fst, scope := (fnAt 18).snd.snd, globals := 3, closure := [], defaults := Value.none, kwdefaults := Value.none, pyModule := Value.str (Str.ofString "routeloom.fibtree") 194, code := Value.ref 153 } }
noncomputable def o_195 : Params → Obj := fun _ => { cls := Value.type "tuple", data := Data.seq #[Value.str (Str.ofString "bits") 375, Value.str (Str.ofString "tree") 376] }
noncomputable def o_196 : Params → Obj := fun P => { cls := Value.type "dict", data := Data.dict #[{ hash := PyData.keyHash P (Str.ofString "__module__"), key := Value.str (Str.ofString "__module__") 321, val := Value.str (Str.ofString "routeloom.fibtree") 194 }, { hash := PyData.keyHash P (Str.ofString "__firstlineno__"), key := Value.str (Str.ofString "__firstlineno__") 325, val := Value.int 68 324 }, { hash := PyData.keyHash P (Str.ofString "__init__"), key := Value.str (Str.ofString "__init__") 333, val := Value.ref 119 }, { hash := PyData.keyHash P (Str.ofString "put"), key := Value.str (Str.ofString "put") 342, val := Value.ref 126 }, { hash := PyData.keyHash P (Str.ofString "drop"), key := Value.str (Str.ofString "drop") 351, val := Value.ref 133 }, { hash := PyData.keyHash P (Str.ofString "look"), key := Value.str (Str.ofString "look") 359, val := Value.ref 140 }, { hash := PyData.keyHash P (Str.ofString "exact"), key := Value.str (Str.ofString "exact") 367, val := Value.ref 147 }, { hash := PyData.keyHash P (Str.ofString "rows"), key := Value.str (Str.ofString "rows") 374, val := Value.ref 154 }, { hash := PyData.keyHash P (Str.ofString "__static_attributes__"), key := Value.str (Str.ofString "__static_attributes__") 377, val := Value.ref 155 }, { hash := PyData.keyHash P (Str.ofString "__dict__"), key := Value.str (Str.ofString "__dict__") 379, val := Value.ref 158 }, { hash := PyData.keyHash P (Str.ofString "__weakref__"), key := Value.str (Str.ofString "__weakref__") 381, val := Value.ref 159 }, { hash := PyData.keyHash P (Str.ofString "__doc__"), key := Value.str (Str.ofString "__doc__") 382, val := Value.none }] 4 }
noncomputable def o_197 : Params → Obj := fun _ => { cls := Value.type "type", data := Data.cls { name := Str.ofString "FibTree", bases := [Value.type "object"], mro := [Value.ref 157, Value.type "object"], ns := 156, qualname := Str.ofString "FibTree" }, slots := #[none, none, some (Value.str (Str.ofString "FibTree") 314), some (Value.str (Str.ofString "FibTree") 322), some (Value.builtin "object.__new__"), some (Value.bool true)] }
noncomputable def o_198 : Params → Obj := fun _ => { cls := Value.type "getset_descriptor", data := Data.fields #[Value.str (Str.ofString "__dict__") 378, Value.ref 157, Value.builtin "function.__dict__", Value.builtin "function.__dict__#set"] }
noncomputable def o_199 : Params → Obj := fun _ => { cls := Value.type "getset_descriptor", data := Data.fields #[Value.str (Str.ofString "__weakref__") 380, Value.ref 157, Value.builtin "ExceptionGroup.__weakref__", Value.none] }
noncomputable def o_200 : Params → Obj := fun _ => { cls := Value.type "super", data := Data.fields #[Value.ref 157, Value.ref 157, Value.ref 157] }
noncomputable def o_201 : Params → Obj := fun _ => { cls := Value.type "builtin_function_or_method", data := Data.fields #[Value.builtin "object.__init_subclass__", Value.ref 157] }
noncomputable def o_202 : Params → Obj := fun P => { cls := Value.type "dict", data := Data.dict #[{ hash := PyData.keyHash P (Str.ofString "__name__"), key := Value.str (Str.ofString "__name__") 165, val := Value.str (Str.ofString "law_sj0175_01") 385 }, { hash := PyData.keyHash P (Str.ofString "__doc__"), key := Value.str (Str.ofString "__doc__") 166, val := Value.none }, { hash := PyData.keyHash P (Str.ofString "__package__"), key := Value.str (Str.ofString "__package__") 167, val := Value.none }, { hash := PyData.keyHash P (Str.ofString "__loader__"), key := Value.str (Str.ofString "__loader__") 168, val := Value.builtin ldr }, { hash := PyData.keyHash P (Str.ofString "__spec__"), key := Value.str (Str.ofString "__spec__") 169, val := Value.none }, { hash := PyData.keyHash P (Str.ofString "__annotations__"), key := Value.str (Str.ofString "__annotations__") 170, val := Value.ref 6 }, { hash := PyData.keyHash P (Str.ofString "__builtins__"), key := Value.str (Str.ofString "__builtins__") 171, val := Value.ref 4 }, { hash := PyData.keyHash P (Str.ofString "__file__"), key := Value.str (Str.ofString "__file__") 173, val := Value.str (Str.ofString "/claim/cut.py") 172 }, { hash := PyData.keyHash P (Str.ofString "__cached__"), key := Value.str (Str.ofString "__cached__") 174, val := Value.none }, { hash := PyData.keyHash P (Str.ofString "_wall"), key := Value.str (Str.ofString "_wall") 193, val := Value.ref 21 }, { hash := PyData.keyHash P (Str.ofString "first_bits"), key := Value.str (Str.ofString "first_bits") 204, val := Value.ref 28 }, { hash := PyData.keyHash P (Str.ofString "bit_of"), key := Value.str (Str.ofString "bit_of") 213, val := Value.ref 35 }, { hash := PyData.keyHash P (Str.ofString "shared_length"), key := Value.str (Str.ofString "shared_length") 224, val := Value.ref 42 }, { hash := PyData.keyHash P (Str.ofString "with_child"), key := Value.str (Str.ofString "with_child") 233, val := Value.ref 49 }, { hash := PyData.keyHash P (Str.ofString "fork"), key := Value.str (Str.ofString "fork") 244, val := Value.ref 56 }, { hash := PyData.keyHash P (Str.ofString "tree_put"), key := Value.str (Str.ofString "tree_put") 258, val := Value.ref 63 }, { hash := PyData.keyHash P (Str.ofString "shrunk"), key := Value.str (Str.ofString "shrunk") 265, val := Value.ref 70 }, { hash := PyData.keyHash P (Str.ofString "tree_drop"), key := Value.str (Str.ofString "tree_drop") 277, val := Value.ref 77 }, { hash := PyData.keyHash P (Str.ofString "tree_look"), key := Value.str (Str.ofString "tree_look") 288, val := Value.ref 84 }, { hash := PyData.keyHash P (Str.ofString "tree_exact"), key := Value.str (Str.ofString "tree_exact") 298, val := Value.ref 91 }, { hash := PyData.keyHash P (Str.ofString "tree_all"), key := Value.str (Str.ofString "tree_all") 306, val := Value.ref 98 }, { hash := PyData.keyHash P (Str.ofString "node_count"), key := Value.str (Str.ofString "node_count") 313, val := Value.ref 105 }, { hash := PyData.keyHash P (Str.ofString "FibTree"), key := Value.str (Str.ofString "FibTree") 384, val := Value.ref 157 }, { hash := PyData.keyHash P (Str.ofString "_law_draw"), key := Value.str (Str.ofString "_law_draw") 395, val := Value.ref 168 }, { hash := PyData.keyHash P (Str.ofString "_law_moved"), key := Value.str (Str.ofString "_law_moved") 403, val := Value.ref 175 }, { hash := PyData.keyHash P (Str.ofString "_law_joined"), key := Value.str (Str.ofString "_law_joined") 415, val := Value.ref 182 }, { hash := PyData.keyHash P (Str.ofString "_law_looked_right"), key := Value.str (Str.ofString "_law_looked_right") 429, val := Value.ref 189 }, { hash := PyData.keyHash P (Str.ofString "law"), key := Value.str (Str.ofString "law") 435, val := Value.ref 194 }] 28 }
noncomputable def o_203 : Params → Obj := fun _ => { cls := Value.none, data := Data.fields #[Value.int 1 0, Value.int 0 0, Value.ref 20, Value.int 5 0, Value.int 0 0, Value.ref 27, Value.int 7 0, Value.int 0 0, Value.ref 34, Value.int 9 0, Value.int 0 0, Value.ref 41, Value.int 14 0, Value.int 0 0, Value.ref 48, Value.int 18 0, Value.int 0 0, Value.ref 55, Value.int 22 0, Value.int 0 0, Value.ref 62, Value.int 35 0, Value.int 0 0, Value.ref 69, Value.int 39 0, Value.int 0 0, Value.ref 76, Value.int 49 0, Value.int 0 0, Value.ref 83, Value.int 56 0, Value.int 0 0, Value.ref 90, Value.int 61 0, Value.int 0 0, Value.ref 97, Value.int 66 0, Value.int 0 0, Value.ref 104, Value.int 68 0, Value.int 0 0, Value.ref 111, Value.int 91 0, Value.int 0 0, Value.ref 167, Value.int 97 0, Value.int 0 0, Value.ref 174, Value.int 101 0, Value.int 0 0, Value.ref 181, Value.int 106 0, Value.int 0 0, Value.ref 188, Value.int 116 0, Value.int 0 0, Value.ref 193] }
noncomputable def o_204 : Params → Obj := fun _ => { cls := Value.type "tuple", data := Data.seq #[] }
noncomputable def o_205 : Params → Obj := fun _ => { cls := Value.none, data := Data.fields #[] }
noncomputable def o_206 : Params → Obj := fun _ => { cls := Value.type "tuple", data := Data.seq #[Value.str (Str.ofString "box") 390, Value.str (Str.ofString "many") 391, Value.str (Str.ofString "spot") 392] }
noncomputable def o_207 : Params → Obj := fun _ => { cls := Value.type "tuple", data := Data.seq #[] }
noncomputable def o_208 : Params → Obj := fun _ => { cls := Value.none, data := Data.func { name := Str.ofString "_law_draw", qualname := Str.ofString "_law_draw", params := (fnAt 19).fst, body := FuncBody.stmts (fnAt 19).snd.fst, scope := (fnAt 19).snd.snd, globals := 0, closure := [], defaults := Value.none, kwdefaults := Value.none } }
noncomputable def o_209 : Params → Obj := fun _ => { cls := Value.type "code", data := Data.fields #[Value.str (Str.ofString "_law_draw") 387, Value.str (Str.ofString "_law_draw") 388, Value.str (Str.ofString "/claim/cut.py") 389, Value.int 91 0, Value.int 2 0, Value.int 0 0, Value.int 0 0, Value.int 3 0, Value.ref 162, Value.bool true, Value.int 181 0, Value.ref 163, Value.none, Value.ref 164, Value.ref 165, Value.ref 166, Value.int 393 0, Value.int 91 0, Value.str (Str.ofString "/claim/cut.py") 394] }
noncomputable def o_210 : Params → Obj := fun _ => { cls := Value.type "function", data := Data.func { name := Str.ofString "_law_draw", qualname := Str.ofString "_law_draw", params := (fnAt 19).fst, body := FuncBody.stmts (fnAt 19).snd.fst, scope := (fnAt 19).snd.snd, globals := 3, closure := [], defaults := Value.none, kwdefaults := Value.none, pyModule := Value.str (Str.ofString "law_sj0175_01") 385, code := Value.ref 167 } }
noncomputable def o_211 : Params → Obj := fun _ => { cls := Value.type "tuple", data := Data.seq #[] }
noncomputable def o_212 : Params → Obj := fun _ => { cls := Value.none, data := Data.fields #[] }
noncomputable def o_213 : Params → Obj := fun _ => { cls := Value.type "tuple", data := Data.seq #[Value.str (Str.ofString "node") 399, Value.str (Str.ofString "begin") 400] }
noncomputable def o_214 : Params → Obj := fun _ => { cls := Value.type "tuple", data := Data.seq #[] }
noncomputable def o_215 : Params → Obj := fun _ => { cls := Value.none, data := Data.func { name := Str.ofString "_law_moved", qualname := Str.ofString "_law_moved", params := (fnAt 20).fst, body := FuncBody.stmts (fnAt 20).snd.fst, scope := (fnAt 20).snd.snd, globals := 0, closure := [], defaults := Value.none, kwdefaults := Value.none } }
noncomputable def o_216 : Params → Obj := fun _ => { cls := Value.type "code", data := Data.fields #[Value.str (Str.ofString "_law_moved") 396, Value.str (Str.ofString "_law_moved") 397, Value.str (Str.ofString "/claim/cut.py") 398, Value.int 97 0, Value.int 2 0, Value.int 0 0, Value.int 0 0, Value.int 3 0, Value.ref 169, Value.bool true, Value.int 181 0, Value.ref 170, Value.none, Value.ref 171, Value.ref 172, Value.ref 173, Value.int 401 0, Value.int 97 0, Value.str (Str.ofString "/claim/cut.py") 402] }
noncomputable def o_217 : Params → Obj := fun _ => { cls := Value.type "function", data := Data.func { name := Str.ofString "_law_moved", qualname := Str.ofString "_law_moved", params := (fnAt 20).fst, body := FuncBody.stmts (fnAt 20).snd.fst, scope := (fnAt 20).snd.snd, globals := 3, closure := [], defaults := Value.none, kwdefaults := Value.none, pyModule := Value.str (Str.ofString "law_sj0175_01") 385, code := Value.ref 174 } }
noncomputable def o_218 : Params → Obj := fun _ => { cls := Value.type "tuple", data := Data.seq #[] }
noncomputable def o_219 : Params → Obj := fun _ => { cls := Value.none, data := Data.fields #[] }
noncomputable def o_220 : Params → Obj := fun _ => { cls := Value.type "tuple", data := Data.seq #[Value.str (Str.ofString "low") 407, Value.str (Str.ofString "high") 408, Value.str (Str.ofString "worth") 409, Value.str (Str.ofString "size") 410, Value.str (Str.ofString "one") 411, Value.str (Str.ofString "other") 412] }
noncomputable def o_221 : Params → Obj := fun _ => { cls := Value.type "tuple", data := Data.seq #[] }
noncomputable def o_222 : Params → Obj := fun _ => { cls := Value.none, data := Data.func { name := Str.ofString "_law_joined", qualname := Str.ofString "_law_joined", params := (fnAt 21).fst, body := FuncBody.stmts (fnAt 21).snd.fst, scope := (fnAt 21).snd.snd, globals := 0, closure := [], defaults := Value.none, kwdefaults := Value.none } }
noncomputable def o_223 : Params → Obj := fun _ => { cls := Value.type "code", data := Data.fields #[Value.str (Str.ofString "_law_joined") 404, Value.str (Str.ofString "_law_joined") 405, Value.str (Str.ofString "/claim/cut.py") 406, Value.int 101 0, Value.int 4 0, Value.int 0 0, Value.int 0 0, Value.int 3 0, Value.ref 176, Value.bool true, Value.int 181 0, Value.ref 177, Value.none, Value.ref 178, Value.ref 179, Value.ref 180, Value.int 413 0, Value.int 101 0, Value.str (Str.ofString "/claim/cut.py") 414] }
noncomputable def o_224 : Params → Obj := fun _ => { cls := Value.type "function", data := Data.func { name := Str.ofString "_law_joined", qualname := Str.ofString "_law_joined", params := (fnAt 21).fst, body := FuncBody.stmts (fnAt 21).snd.fst, scope := (fnAt 21).snd.snd, globals := 3, closure := [], defaults := Value.none, kwdefaults := Value.none, pyModule := Value.str (Str.ofString "law_sj0175_01") 385, code := Value.ref 181 } }
noncomputable def o_225 : Params → Obj := fun _ => { cls := Value.type "tuple", data := Data.seq #[] }
noncomputable def o_226 : Params → Obj := fun _ => { cls := Value.none, data := Data.fields #[] }
noncomputable def o_227 : Params → Obj := fun _ => { cls := Value.type "tuple", data := Data.seq #[Value.str (Str.ofString "whole") 419, Value.str (Str.ofString "halves") 420, Value.str (Str.ofString "worth") 421, Value.str (Str.ofString "bits") 422, Value.str (Str.ofString "size") 423, Value.str (Str.ofString "address") 424, Value.str (Str.ofString "row") 425, Value.str (Str.ofString "due") 426] }
noncomputable def o_228 : Params → Obj := fun _ => { cls := Value.type "tuple", data := Data.seq #[] }
noncomputable def o_229 : Params → Obj := fun _ => { cls := Value.none, data := Data.func { name := Str.ofString "_law_looked_right", qualname := Str.ofString "_law_looked_right", params := (fnAt 22).fst, body := FuncBody.stmts (fnAt 22).snd.fst, scope := (fnAt 22).snd.snd, globals := 0, closure := [], defaults := Value.none, kwdefaults := Value.none } }
noncomputable def o_230 : Params → Obj := fun _ => { cls := Value.type "code", data := Data.fields #[Value.str (Str.ofString "_law_looked_right") 416, Value.str (Str.ofString "_law_looked_right") 417, Value.str (Str.ofString "/claim/cut.py") 418, Value.int 106 0, Value.int 4 0, Value.int 0 0, Value.int 0 0, Value.int 3 0, Value.ref 183, Value.bool true, Value.int 181 0, Value.ref 184, Value.none, Value.ref 185, Value.ref 186, Value.ref 187, Value.int 427 0, Value.int 106 0, Value.str (Str.ofString "/claim/cut.py") 428] }
noncomputable def o_231 : Params → Obj := fun _ => { cls := Value.type "function", data := Data.func { name := Str.ofString "_law_looked_right", qualname := Str.ofString "_law_looked_right", params := (fnAt 22).fst, body := FuncBody.stmts (fnAt 22).snd.fst, scope := (fnAt 22).snd.snd, globals := 3, closure := [], defaults := Value.none, kwdefaults := Value.none, pyModule := Value.str (Str.ofString "law_sj0175_01") 385, code := Value.ref 188 } }
noncomputable def o_232 : Params → Obj := fun _ => { cls := Value.type "tuple", data := Data.seq #[] }
noncomputable def o_233 : Params → Obj := fun _ => { cls := Value.none, data := Data.fields #[] }
noncomputable def o_234 : Params → Obj := fun _ => { cls := Value.none, data := Data.func { name := Str.ofString "law", qualname := Str.ofString "law", params := (fnAt 23).fst, body := FuncBody.stmts (fnAt 23).snd.fst, scope := (fnAt 23).snd.snd, globals := 0, closure := [], defaults := Value.none, kwdefaults := Value.none } }
noncomputable def o_235 : Params → Obj := fun _ => { cls := Value.type "code", data := Data.fields #[Value.str (Str.ofString "law") 430, Value.str (Str.ofString "law") 431, Value.str (Str.ofString "/claim/cut.py") 432, Value.int 116 0, Value.int 1 0, Value.int 0 0, Value.int 0 0, Value.int 3 0, Value.ref 190, Value.bool true, Value.int 181 0, Value.ref 191, Value.none, Value.none, Value.none, Value.ref 192, Value.int 433 0, Value.int 116 0, Value.str (Str.ofString "/claim/cut.py") 434] }
noncomputable def o_236 : Params → Obj := fun _ => { cls := Value.type "function", data := Data.func { name := Str.ofString "law", qualname := Str.ofString "law", params := (fnAt 23).fst, body := FuncBody.stmts (fnAt 23).snd.fst, scope := (fnAt 23).snd.snd, globals := 3, closure := [], defaults := Value.none, kwdefaults := Value.none, pyModule := Value.str (Str.ofString "law_sj0175_01") 385, code := Value.ref 193 } }
noncomputable def tree_47 : Params → BT := fun P => BT.node (boot_o_0 P) (BT.node (boot_o_1 P) (BT.node (boot_o_3 P) (BT.node (boot_o_7 P) BT.nil BT.nil) (BT.node (o_43 P) BT.nil BT.nil)) (BT.node (boot_o_5 P) (BT.node (boot_o_9 P) BT.nil BT.nil) (BT.node (o_45 P) BT.nil BT.nil))) (BT.node (boot_o_2 P) (BT.node (boot_o_4 P) (BT.node (boot_o_8 P) BT.nil BT.nil) (BT.node (o_44 P) BT.nil BT.nil)) (BT.node (boot_o_6 P) (BT.node (boot_o_10 P) BT.nil BT.nil) (BT.node (o_46 P) BT.nil BT.nil)))
noncomputable def tree_134 : Params → BT := fun P => BT.node (boot_o_0 P) (BT.node (boot_o_1 P) (BT.node (o_49 P) (BT.node (boot_o_7 P) (BT.node (o_51 P) (BT.node (o_67 P) (BT.node (o_99 P) BT.nil BT.nil) (BT.node (o_131 P) BT.nil BT.nil)) (BT.node (o_83 P) (BT.node (o_115 P) BT.nil BT.nil) BT.nil)) (BT.node (o_59 P) (BT.node (o_75 P) (BT.node (o_107 P) BT.nil BT.nil) BT.nil) (BT.node (o_91 P) (BT.node (o_123 P) BT.nil BT.nil) BT.nil))) (BT.node (o_43 P) (BT.node (o_55 P) (BT.node (o_71 P) (BT.node (o_103 P) BT.nil BT.nil) BT.nil) (BT.node (o_87 P) (BT.node (o_119 P) BT.nil BT.nil) BT.nil)) (BT.node (o_63 P) (BT.node (o_79 P) (BT.node (o_111 P) BT.nil BT.nil) BT.nil) (BT.node (o_95 P) (BT.node (o_127 P) BT.nil BT.nil) BT.nil)))) (BT.node (boot_o_5 P) (BT.node (boot_o_9 P) (BT.node (o_53 P) (BT.node (o_69 P) (BT.node (o_101 P) BT.nil BT.nil) (BT.node (o_133 P) BT.nil BT.nil)) (BT.node (o_85 P) (BT.node (o_117 P) BT.nil BT.nil) BT.nil)) (BT.node (o_61 P) (BT.node (o_77 P) (BT.node (o_109 P) BT.nil BT.nil) BT.nil) (BT.node (o_93 P) (BT.node (o_125 P) BT.nil BT.nil) BT.nil))) (BT.node (o_45 P) (BT.node (o_57 P) (BT.node (o_73 P) (BT.node (o_105 P) BT.nil BT.nil) BT.nil) (BT.node (o_89 P) (BT.node (o_121 P) BT.nil BT.nil) BT.nil)) (BT.node (o_65 P) (BT.node (o_81 P) (BT.node (o_113 P) BT.nil BT.nil) BT.nil) (BT.node (o_97 P) (BT.node (o_129 P) BT.nil BT.nil) BT.nil))))) (BT.node (boot_o_2 P) (BT.node (boot_o_4 P) (BT.node (boot_o_8 P) (BT.node (o_52 P) (BT.node (o_68 P) (BT.node (o_100 P) BT.nil BT.nil) (BT.node (o_132 P) BT.nil BT.nil)) (BT.node (o_84 P) (BT.node (o_116 P) BT.nil BT.nil) BT.nil)) (BT.node (o_60 P) (BT.node (o_76 P) (BT.node (o_108 P) BT.nil BT.nil) BT.nil) (BT.node (o_92 P) (BT.node (o_124 P) BT.nil BT.nil) BT.nil))) (BT.node (o_50 P) (BT.node (o_56 P) (BT.node (o_72 P) (BT.node (o_104 P) BT.nil BT.nil) BT.nil) (BT.node (o_88 P) (BT.node (o_120 P) BT.nil BT.nil) BT.nil)) (BT.node (o_64 P) (BT.node (o_80 P) (BT.node (o_112 P) BT.nil BT.nil) BT.nil) (BT.node (o_96 P) (BT.node (o_128 P) BT.nil BT.nil) BT.nil)))) (BT.node (boot_o_6 P) (BT.node (boot_o_10 P) (BT.node (o_54 P) (BT.node (o_70 P) (BT.node (o_102 P) BT.nil BT.nil) (BT.node (o_134 P) BT.nil BT.nil)) (BT.node (o_86 P) (BT.node (o_118 P) BT.nil BT.nil) BT.nil)) (BT.node (o_62 P) (BT.node (o_78 P) (BT.node (o_110 P) BT.nil BT.nil) BT.nil) (BT.node (o_94 P) (BT.node (o_126 P) BT.nil BT.nil) BT.nil))) (BT.node (o_46 P) (BT.node (o_58 P) (BT.node (o_74 P) (BT.node (o_106 P) BT.nil BT.nil) BT.nil) (BT.node (o_90 P) (BT.node (o_122 P) BT.nil BT.nil) BT.nil)) (BT.node (o_66 P) (BT.node (o_82 P) (BT.node (o_114 P) BT.nil BT.nil) BT.nil) (BT.node (o_98 P) (BT.node (o_130 P) BT.nil BT.nil) BT.nil)))))
noncomputable def tree_143 : Params → BT := fun P => BT.node (boot_o_0 P) (BT.node (boot_o_1 P) (BT.node (o_135 P) (BT.node (boot_o_7 P) (BT.node (o_51 P) (BT.node (o_67 P) (BT.node (o_99 P) BT.nil BT.nil) (BT.node (o_131 P) BT.nil BT.nil)) (BT.node (o_83 P) (BT.node (o_115 P) BT.nil BT.nil) BT.nil)) (BT.node (o_59 P) (BT.node (o_75 P) (BT.node (o_107 P) BT.nil BT.nil) (BT.node (o_141 P) BT.nil BT.nil)) (BT.node (o_91 P) (BT.node (o_123 P) BT.nil BT.nil) BT.nil))) (BT.node (o_43 P) (BT.node (o_55 P) (BT.node (o_71 P) (BT.node (o_103 P) BT.nil BT.nil) (BT.node (o_137 P) BT.nil BT.nil)) (BT.node (o_87 P) (BT.node (o_119 P) BT.nil BT.nil) BT.nil)) (BT.node (o_63 P) (BT.node (o_79 P) (BT.node (o_111 P) BT.nil BT.nil) BT.nil) (BT.node (o_95 P) (BT.node (o_127 P) BT.nil BT.nil) BT.nil)))) (BT.node (boot_o_5 P) (BT.node (boot_o_9 P) (BT.node (o_53 P) (BT.node (o_69 P) (BT.node (o_101 P) BT.nil BT.nil) (BT.node (o_133 P) BT.nil BT.nil)) (BT.node (o_85 P) (BT.node (o_117 P) BT.nil BT.nil) BT.nil)) (BT.node (o_61 P) (BT.node (o_77 P) (BT.node (o_109 P) BT.nil BT.nil) (BT.node (o_143 P) BT.nil BT.nil)) (BT.node (o_93 P) (BT.node (o_125 P) BT.nil BT.nil) BT.nil))) (BT.node (o_45 P) (BT.node (o_57 P) (BT.node (o_73 P) (BT.node (o_105 P) BT.nil BT.nil) (BT.node (o_139 P) BT.nil BT.nil)) (BT.node (o_89 P) (BT.node (o_121 P) BT.nil BT.nil) BT.nil)) (BT.node (o_65 P) (BT.node (o_81 P) (BT.node (o_113 P) BT.nil BT.nil) BT.nil) (BT.node (o_97 P) (BT.node (o_129 P) BT.nil BT.nil) BT.nil))))) (BT.node (boot_o_2 P) (BT.node (boot_o_4 P) (BT.node (boot_o_8 P) (BT.node (o_52 P) (BT.node (o_68 P) (BT.node (o_100 P) BT.nil BT.nil) (BT.node (o_132 P) BT.nil BT.nil)) (BT.node (o_84 P) (BT.node (o_116 P) BT.nil BT.nil) BT.nil)) (BT.node (o_60 P) (BT.node (o_76 P) (BT.node (o_108 P) BT.nil BT.nil) (BT.node (o_142 P) BT.nil BT.nil)) (BT.node (o_92 P) (BT.node (o_124 P) BT.nil BT.nil) BT.nil))) (BT.node (o_136 P) (BT.node (o_56 P) (BT.node (o_72 P) (BT.node (o_104 P) BT.nil BT.nil) (BT.node (o_138 P) BT.nil BT.nil)) (BT.node (o_88 P) (BT.node (o_120 P) BT.nil BT.nil) BT.nil)) (BT.node (o_64 P) (BT.node (o_80 P) (BT.node (o_112 P) BT.nil BT.nil) BT.nil) (BT.node (o_96 P) (BT.node (o_128 P) BT.nil BT.nil) BT.nil)))) (BT.node (boot_o_6 P) (BT.node (boot_o_10 P) (BT.node (o_54 P) (BT.node (o_70 P) (BT.node (o_102 P) BT.nil BT.nil) (BT.node (o_134 P) BT.nil BT.nil)) (BT.node (o_86 P) (BT.node (o_118 P) BT.nil BT.nil) BT.nil)) (BT.node (o_62 P) (BT.node (o_78 P) (BT.node (o_110 P) BT.nil BT.nil) BT.nil) (BT.node (o_94 P) (BT.node (o_126 P) BT.nil BT.nil) BT.nil))) (BT.node (o_46 P) (BT.node (o_58 P) (BT.node (o_74 P) (BT.node (o_106 P) BT.nil BT.nil) (BT.node (o_140 P) BT.nil BT.nil)) (BT.node (o_90 P) (BT.node (o_122 P) BT.nil BT.nil) BT.nil)) (BT.node (o_66 P) (BT.node (o_82 P) (BT.node (o_114 P) BT.nil BT.nil) BT.nil) (BT.node (o_98 P) (BT.node (o_130 P) BT.nil BT.nil) BT.nil)))))
noncomputable def tree_201 : Params → BT := fun P => BT.node (boot_o_0 P) (BT.node (boot_o_1 P) (BT.node (o_144 P) (BT.node (boot_o_7 P) (BT.node (o_51 P) (BT.node (o_67 P) (BT.node (o_99 P) (BT.node (o_167 P) BT.nil BT.nil) BT.nil) (BT.node (o_131 P) (BT.node (o_199 P) BT.nil BT.nil) BT.nil)) (BT.node (o_83 P) (BT.node (o_115 P) (BT.node (o_183 P) BT.nil BT.nil) BT.nil) (BT.node (o_151 P) BT.nil BT.nil))) (BT.node (o_59 P) (BT.node (o_75 P) (BT.node (o_107 P) (BT.node (o_175 P) BT.nil BT.nil) BT.nil) (BT.node (o_141 P) BT.nil BT.nil)) (BT.node (o_91 P) (BT.node (o_123 P) (BT.node (o_191 P) BT.nil BT.nil) BT.nil) (BT.node (o_159 P) BT.nil BT.nil)))) (BT.node (o_43 P) (BT.node (o_55 P) (BT.node (o_71 P) (BT.node (o_103 P) (BT.node (o_171 P) BT.nil BT.nil) BT.nil) (BT.node (o_137 P) BT.nil BT.nil)) (BT.node (o_87 P) (BT.node (o_119 P) (BT.node (o_187 P) BT.nil BT.nil) BT.nil) (BT.node (o_155 P) BT.nil BT.nil))) (BT.node (o_63 P) (BT.node (o_79 P) (BT.node (o_111 P) (BT.node (o_179 P) BT.nil BT.nil) BT.nil) (BT.node (o_147 P) BT.nil BT.nil)) (BT.node (o_95 P) (BT.node (o_127 P) (BT.node (o_195 P) BT.nil BT.nil) BT.nil) (BT.node (o_163 P) BT.nil BT.nil))))) (BT.node (boot_o_5 P) (BT.node (boot_o_9 P) (BT.node (o_53 P) (BT.node (o_69 P) (BT.node (o_101 P) (BT.node (o_169 P) BT.nil BT.nil) BT.nil) (BT.node (o_133 P) (BT.node (o_201 P) BT.nil BT.nil) BT.nil)) (BT.node (o_85 P) (BT.node (o_117 P) (BT.node (o_185 P) BT.nil BT.nil) BT.nil) (BT.node (o_153 P) BT.nil BT.nil))) (BT.node (o_61 P) (BT.node (o_77 P) (BT.node (o_109 P) (BT.node (o_177 P) BT.nil BT.nil) BT.nil) (BT.node (o_143 P) BT.nil BT.nil)) (BT.node (o_93 P) (BT.node (o_125 P) (BT.node (o_193 P) BT.nil BT.nil) BT.nil) (BT.node (o_161 P) BT.nil BT.nil)))) (BT.node (o_45 P) (BT.node (o_57 P) (BT.node (o_73 P) (BT.node (o_105 P) (BT.node (o_173 P) BT.nil BT.nil) BT.nil) (BT.node (o_139 P) BT.nil BT.nil)) (BT.node (o_89 P) (BT.node (o_121 P) (BT.node (o_189 P) BT.nil BT.nil) BT.nil) (BT.node (o_157 P) BT.nil BT.nil))) (BT.node (o_65 P) (BT.node (o_81 P) (BT.node (o_113 P) (BT.node (o_181 P) BT.nil BT.nil) BT.nil) (BT.node (o_149 P) BT.nil BT.nil)) (BT.node (o_97 P) (BT.node (o_129 P) (BT.node (o_197 P) BT.nil BT.nil) BT.nil) (BT.node (o_165 P) BT.nil BT.nil)))))) (BT.node (boot_o_2 P) (BT.node (boot_o_4 P) (BT.node (boot_o_8 P) (BT.node (o_52 P) (BT.node (o_68 P) (BT.node (o_100 P) (BT.node (o_168 P) BT.nil BT.nil) BT.nil) (BT.node (o_132 P) (BT.node (o_200 P) BT.nil BT.nil) BT.nil)) (BT.node (o_84 P) (BT.node (o_116 P) (BT.node (o_184 P) BT.nil BT.nil) BT.nil) (BT.node (o_152 P) BT.nil BT.nil))) (BT.node (o_60 P) (BT.node (o_76 P) (BT.node (o_108 P) (BT.node (o_176 P) BT.nil BT.nil) BT.nil) (BT.node (o_142 P) BT.nil BT.nil)) (BT.node (o_92 P) (BT.node (o_124 P) (BT.node (o_192 P) BT.nil BT.nil) BT.nil) (BT.node (o_160 P) BT.nil BT.nil)))) (BT.node (o_145 P) (BT.node (o_56 P) (BT.node (o_72 P) (BT.node (o_104 P) (BT.node (o_172 P) BT.nil BT.nil) BT.nil) (BT.node (o_138 P) BT.nil BT.nil)) (BT.node (o_88 P) (BT.node (o_120 P) (BT.node (o_188 P) BT.nil BT.nil) BT.nil) (BT.node (o_156 P) BT.nil BT.nil))) (BT.node (o_64 P) (BT.node (o_80 P) (BT.node (o_112 P) (BT.node (o_180 P) BT.nil BT.nil) BT.nil) (BT.node (o_148 P) BT.nil BT.nil)) (BT.node (o_96 P) (BT.node (o_128 P) (BT.node (o_196 P) BT.nil BT.nil) BT.nil) (BT.node (o_164 P) BT.nil BT.nil))))) (BT.node (boot_o_6 P) (BT.node (boot_o_10 P) (BT.node (o_54 P) (BT.node (o_70 P) (BT.node (o_102 P) (BT.node (o_170 P) BT.nil BT.nil) BT.nil) (BT.node (o_134 P) BT.nil BT.nil)) (BT.node (o_86 P) (BT.node (o_118 P) (BT.node (o_186 P) BT.nil BT.nil) BT.nil) (BT.node (o_154 P) BT.nil BT.nil))) (BT.node (o_62 P) (BT.node (o_78 P) (BT.node (o_110 P) (BT.node (o_178 P) BT.nil BT.nil) BT.nil) (BT.node (o_146 P) BT.nil BT.nil)) (BT.node (o_94 P) (BT.node (o_126 P) (BT.node (o_194 P) BT.nil BT.nil) BT.nil) (BT.node (o_162 P) BT.nil BT.nil)))) (BT.node (o_46 P) (BT.node (o_58 P) (BT.node (o_74 P) (BT.node (o_106 P) (BT.node (o_174 P) BT.nil BT.nil) BT.nil) (BT.node (o_140 P) BT.nil BT.nil)) (BT.node (o_90 P) (BT.node (o_122 P) (BT.node (o_190 P) BT.nil BT.nil) BT.nil) (BT.node (o_158 P) BT.nil BT.nil))) (BT.node (o_66 P) (BT.node (o_82 P) (BT.node (o_114 P) (BT.node (o_182 P) BT.nil BT.nil) BT.nil) (BT.node (o_150 P) BT.nil BT.nil)) (BT.node (o_98 P) (BT.node (o_130 P) (BT.node (o_198 P) BT.nil BT.nil) BT.nil) (BT.node (o_166 P) BT.nil BT.nil))))))
noncomputable def tree_236 : Params → BT := fun P => BT.node (boot_o_0 P) (BT.node (boot_o_1 P) (BT.node (o_202 P) (BT.node (boot_o_7 P) (BT.node (o_51 P) (BT.node (o_67 P) (BT.node (o_99 P) (BT.node (o_167 P) BT.nil BT.nil) (BT.node (o_233 P) BT.nil BT.nil)) (BT.node (o_131 P) (BT.node (o_199 P) BT.nil BT.nil) BT.nil)) (BT.node (o_83 P) (BT.node (o_115 P) (BT.node (o_183 P) BT.nil BT.nil) BT.nil) (BT.node (o_151 P) (BT.node (o_217 P) BT.nil BT.nil) BT.nil))) (BT.node (o_59 P) (BT.node (o_75 P) (BT.node (o_107 P) (BT.node (o_175 P) BT.nil BT.nil) BT.nil) (BT.node (o_141 P) (BT.node (o_209 P) BT.nil BT.nil) BT.nil)) (BT.node (o_91 P) (BT.node (o_123 P) (BT.node (o_191 P) BT.nil BT.nil) BT.nil) (BT.node (o_159 P) (BT.node (o_225 P) BT.nil BT.nil) BT.nil)))) (BT.node (o_43 P) (BT.node (o_55 P) (BT.node (o_71 P) (BT.node (o_103 P) (BT.node (o_171 P) BT.nil BT.nil) BT.nil) (BT.node (o_137 P) (BT.node (o_205 P) BT.nil BT.nil) BT.nil)) (BT.node (o_87 P) (BT.node (o_119 P) (BT.node (o_187 P) BT.nil BT.nil) BT.nil) (BT.node (o_155 P) (BT.node (o_221 P) BT.nil BT.nil) BT.nil))) (BT.node (o_63 P) (BT.node (o_79 P) (BT.node (o_111 P) (BT.node (o_179 P) BT.nil BT.nil) BT.nil) (BT.node (o_147 P) (BT.node (o_213 P) BT.nil BT.nil) BT.nil)) (BT.node (o_95 P) (BT.node (o_127 P) (BT.node (o_195 P) BT.nil BT.nil) BT.nil) (BT.node (o_163 P) (BT.node (o_229 P) BT.nil BT.nil) BT.nil))))) (BT.node (boot_o_5 P) (BT.node (boot_o_9 P) (BT.node (o_53 P) (BT.node (o_69 P) (BT.node (o_101 P) (BT.node (o_169 P) BT.nil BT.nil) (BT.node (o_235 P) BT.nil BT.nil)) (BT.node (o_133 P) (BT.node (o_201 P) BT.nil BT.nil) BT.nil)) (BT.node (o_85 P) (BT.node (o_117 P) (BT.node (o_185 P) BT.nil BT.nil) BT.nil) (BT.node (o_153 P) (BT.node (o_219 P) BT.nil BT.nil) BT.nil))) (BT.node (o_61 P) (BT.node (o_77 P) (BT.node (o_109 P) (BT.node (o_177 P) BT.nil BT.nil) BT.nil) (BT.node (o_143 P) (BT.node (o_211 P) BT.nil BT.nil) BT.nil)) (BT.node (o_93 P) (BT.node (o_125 P) (BT.node (o_193 P) BT.nil BT.nil) BT.nil) (BT.node (o_161 P) (BT.node (o_227 P) BT.nil BT.nil) BT.nil)))) (BT.node (o_45 P) (BT.node (o_57 P) (BT.node (o_73 P) (BT.node (o_105 P) (BT.node (o_173 P) BT.nil BT.nil) BT.nil) (BT.node (o_139 P) (BT.node (o_207 P) BT.nil BT.nil) BT.nil)) (BT.node (o_89 P) (BT.node (o_121 P) (BT.node (o_189 P) BT.nil BT.nil) BT.nil) (BT.node (o_157 P) (BT.node (o_223 P) BT.nil BT.nil) BT.nil))) (BT.node (o_65 P) (BT.node (o_81 P) (BT.node (o_113 P) (BT.node (o_181 P) BT.nil BT.nil) BT.nil) (BT.node (o_149 P) (BT.node (o_215 P) BT.nil BT.nil) BT.nil)) (BT.node (o_97 P) (BT.node (o_129 P) (BT.node (o_197 P) BT.nil BT.nil) BT.nil) (BT.node (o_165 P) (BT.node (o_231 P) BT.nil BT.nil) BT.nil)))))) (BT.node (boot_o_2 P) (BT.node (boot_o_4 P) (BT.node (boot_o_8 P) (BT.node (o_52 P) (BT.node (o_68 P) (BT.node (o_100 P) (BT.node (o_168 P) BT.nil BT.nil) (BT.node (o_234 P) BT.nil BT.nil)) (BT.node (o_132 P) (BT.node (o_200 P) BT.nil BT.nil) BT.nil)) (BT.node (o_84 P) (BT.node (o_116 P) (BT.node (o_184 P) BT.nil BT.nil) BT.nil) (BT.node (o_152 P) (BT.node (o_218 P) BT.nil BT.nil) BT.nil))) (BT.node (o_60 P) (BT.node (o_76 P) (BT.node (o_108 P) (BT.node (o_176 P) BT.nil BT.nil) BT.nil) (BT.node (o_142 P) (BT.node (o_210 P) BT.nil BT.nil) BT.nil)) (BT.node (o_92 P) (BT.node (o_124 P) (BT.node (o_192 P) BT.nil BT.nil) BT.nil) (BT.node (o_160 P) (BT.node (o_226 P) BT.nil BT.nil) BT.nil)))) (BT.node (o_203 P) (BT.node (o_56 P) (BT.node (o_72 P) (BT.node (o_104 P) (BT.node (o_172 P) BT.nil BT.nil) BT.nil) (BT.node (o_138 P) (BT.node (o_206 P) BT.nil BT.nil) BT.nil)) (BT.node (o_88 P) (BT.node (o_120 P) (BT.node (o_188 P) BT.nil BT.nil) BT.nil) (BT.node (o_156 P) (BT.node (o_222 P) BT.nil BT.nil) BT.nil))) (BT.node (o_64 P) (BT.node (o_80 P) (BT.node (o_112 P) (BT.node (o_180 P) BT.nil BT.nil) BT.nil) (BT.node (o_148 P) (BT.node (o_214 P) BT.nil BT.nil) BT.nil)) (BT.node (o_96 P) (BT.node (o_128 P) (BT.node (o_196 P) BT.nil BT.nil) BT.nil) (BT.node (o_164 P) (BT.node (o_230 P) BT.nil BT.nil) BT.nil))))) (BT.node (boot_o_6 P) (BT.node (boot_o_10 P) (BT.node (o_54 P) (BT.node (o_70 P) (BT.node (o_102 P) (BT.node (o_170 P) BT.nil BT.nil) (BT.node (o_236 P) BT.nil BT.nil)) (BT.node (o_134 P) (BT.node (o_204 P) BT.nil BT.nil) BT.nil)) (BT.node (o_86 P) (BT.node (o_118 P) (BT.node (o_186 P) BT.nil BT.nil) BT.nil) (BT.node (o_154 P) (BT.node (o_220 P) BT.nil BT.nil) BT.nil))) (BT.node (o_62 P) (BT.node (o_78 P) (BT.node (o_110 P) (BT.node (o_178 P) BT.nil BT.nil) BT.nil) (BT.node (o_146 P) (BT.node (o_212 P) BT.nil BT.nil) BT.nil)) (BT.node (o_94 P) (BT.node (o_126 P) (BT.node (o_194 P) BT.nil BT.nil) BT.nil) (BT.node (o_162 P) (BT.node (o_228 P) BT.nil BT.nil) BT.nil)))) (BT.node (o_46 P) (BT.node (o_58 P) (BT.node (o_74 P) (BT.node (o_106 P) (BT.node (o_174 P) BT.nil BT.nil) BT.nil) (BT.node (o_140 P) (BT.node (o_208 P) BT.nil BT.nil) BT.nil)) (BT.node (o_90 P) (BT.node (o_122 P) (BT.node (o_190 P) BT.nil BT.nil) BT.nil) (BT.node (o_158 P) (BT.node (o_224 P) BT.nil BT.nil) BT.nil))) (BT.node (o_66 P) (BT.node (o_82 P) (BT.node (o_114 P) (BT.node (o_182 P) BT.nil BT.nil) BT.nil) (BT.node (o_150 P) (BT.node (o_216 P) BT.nil BT.nil) BT.nil)) (BT.node (o_98 P) (BT.node (o_130 P) (BT.node (o_198 P) BT.nil BT.nil) BT.nil) (BT.node (o_166 P) (BT.node (o_232 P) BT.nil BT.nil) BT.nil))))))
noncomputable def heap_46 : Params → Heap := fun P => { objs := { toList := [boot_o_0 P, boot_o_1 P, boot_o_2 P, boot_o_3 P, boot_o_4 P, boot_o_5 P, boot_o_6 P, boot_o_7 P, boot_o_8 P, boot_o_9 P, boot_o_10 P, o_43 P, o_44 P, o_45 P, o_46 P] } }
noncomputable def heap_237 : Params → Heap := fun P => { objs := { toList := [boot_o_0 P, boot_o_1 P, boot_o_2 P, o_202 P, boot_o_4 P, boot_o_5 P, boot_o_6 P, boot_o_7 P, boot_o_8 P, boot_o_9 P, boot_o_10 P, o_43 P, o_203 P, o_45 P, o_46 P, o_51 P, o_52 P, o_53 P, o_54 P, o_55 P, o_56 P, o_57 P, o_58 P, o_59 P, o_60 P, o_61 P, o_62 P, o_63 P, o_64 P, o_65 P, o_66 P, o_67 P, o_68 P, o_69 P, o_70 P, o_71 P, o_72 P, o_73 P, o_74 P, o_75 P, o_76 P, o_77 P, o_78 P, o_79 P, o_80 P, o_81 P, o_82 P, o_83 P, o_84 P, o_85 P, o_86 P, o_87 P, o_88 P, o_89 P, o_90 P, o_91 P, o_92 P, o_93 P, o_94 P, o_95 P, o_96 P, o_97 P, o_98 P, o_99 P, o_100 P, o_101 P, o_102 P, o_103 P, o_104 P, o_105 P, o_106 P, o_107 P, o_108 P, o_109 P, o_110 P, o_111 P, o_112 P, o_113 P, o_114 P, o_115 P, o_116 P, o_117 P, o_118 P, o_119 P, o_120 P, o_121 P, o_122 P, o_123 P, o_124 P, o_125 P, o_126 P, o_127 P, o_128 P, o_129 P, o_130 P, o_131 P, o_132 P, o_133 P, o_134 P, o_137 P, o_138 P, o_139 P, o_140 P, o_141 P, o_142 P, o_143 P, o_146 P, o_147 P, o_148 P, o_149 P, o_150 P, o_151 P, o_152 P, o_153 P, o_154 P, o_155 P, o_156 P, o_157 P, o_158 P, o_159 P, o_160 P, o_161 P, o_162 P, o_163 P, o_164 P, o_165 P, o_166 P, o_167 P, o_168 P, o_169 P, o_170 P, o_171 P, o_172 P, o_173 P, o_174 P, o_175 P, o_176 P, o_177 P, o_178 P, o_179 P, o_180 P, o_181 P, o_182 P, o_183 P, o_184 P, o_185 P, o_186 P, o_187 P, o_188 P, o_189 P, o_190 P, o_191 P, o_192 P, o_193 P, o_194 P, o_195 P, o_196 P, o_197 P, o_198 P, o_199 P, o_200 P, o_201 P, o_204 P, o_205 P, o_206 P, o_207 P, o_208 P, o_209 P, o_210 P, o_211 P, o_212 P, o_213 P, o_214 P, o_215 P, o_216 P, o_217 P, o_218 P, o_219 P, o_220 P, o_221 P, o_222 P, o_223 P, o_224 P, o_225 P, o_226 P, o_227 P, o_228 P, o_229 P, o_230 P, o_231 P, o_232 P, o_233 P, o_234 P, o_235 P, o_236 P] } }
noncomputable def env_41 : Env := { scope := Challenge.rw_sj0175_01.row.toRowW.1.main.scope, locals := mainNs, globals := mainNs, cells := [], code := Value.ref 13, frame := some 14 }
abbrev PG : Program := Challenge.rw_sj0175_01.row.toRowW.1
noncomputable abbrev C0 : Code := Code.body (behindTheImports PG) env_41
noncomputable def s1 : List Stmt := (behindTheImports PG).take 13
noncomputable def s2 : List Stmt := ((behindTheImports PG).drop 13).take 1
noncomputable def s3 : List Stmt := ((behindTheImports PG).drop 14).take 2
noncomputable def s4 : List Stmt := (behindTheImports PG).drop 16
theorem s_all : behindTheImports PG = s1 ++ (s2 ++ (s3 ++ (s4 ++ []))) := by kernel_rfl
theorem run4 {tb : String → Option Builtin} {p : Program} {w : World} {n₀ : Nat} {ann : Option Value} {env : Env} {q : Pos} {b l1 l2 l3 l4 : List Stmt} {c : Code} {n0 nb n1 n2 n3 n4 N : Nat} {S0 S1 S2 S3 S4 S5 S6 r : Shared} {t0 : Thread} {p0 p1 p2 p3 p4 p5 : Pos}
    (e : b = l1 ++ (l2 ++ (l3 ++ (l4 ++ []))))
    (h0 : topGo tb p w n₀ ann n0 S0 t0 = some (S1, ⟨denote tb (Code.body b env), c, p0, [topFrame q]⟩))
    (hb : segRun tb p w n₀ ann 1 nb S1 (blockOf b env c p0 [topFrame q]) = some (.next, S2, c, p1))
    (h1 : segRun tb p w n₀ ann 1 n1 S2 (piecesOf l1 env c p1 [topFrame q]) = some (.next, S3, c, p2))
    (h2 : segRun tb p w n₀ ann 1 n2 S3 (piecesOf l2 env c p2 [topFrame q]) = some (.next, S4, c, p3))
    (h3 : segRun tb p w n₀ ann 1 n3 S4 (piecesOf l3 env c p3 [topFrame q]) = some (.next, S5, c, p4))
    (h4 : segRun tb p w n₀ ann 1 n4 S5 (piecesOf l4 env c p4 [topFrame q]) = some (.next, S6, c, p5))
    (hf : topRun tb p w n₀ ann N S6 (restOf [] env c p5 [topFrame q]) = some r) :
    topRun tb p w n₀ ann (n0 + (nb + (n1 + (n2 + (n3 + (n4 + N)))))) S0 t0 = some r :=
  go_top h0 (piece_block hb (by rw [e]; exact piece_app h1 (piece_app h2 (piece_app h3 (piece_app h4 hf)))))
theorem top_0 (w : World) (os : OsState) : topGo treeTable PG w 11 (some (Value.ref 6)) 12 { heap := boot_heap w.params, drawn := boot_drawn, toks := boot_toks, os := os } (topStub PG) =
    some ({ heap := heap_46 w.params, toks := 187, os := os }, ⟨denote treeTable C0, C0, ⟨0, 0, 0, 0⟩, [topFrame ⟨0, 0, 0, 0⟩]⟩) := by kernel_rfl
theorem top_b (w : World) (os : OsState) : segRun treeTable PG w 11 (some (Value.ref 6)) 1 1 { heap := heap_46 w.params, toks := 187, os := os } (blockOf (behindTheImports PG) env_41 C0 ⟨0, 0, 0, 0⟩ [topFrame ⟨0, 0, 0, 0⟩]) =
    some (.next, SharedT.abs { tree := tree_47 w.params, n := 15, life := { }, gens := #[], drawn := { }, toks := 187, os := os }, C0, ⟨0, 0, 0, 0⟩) := by kernel_rfl
theorem piece_a (w : World) (os : OsState) : segRunT treeTable PG w 11 (some (Value.ref 6)) 1 392 { tree := tree_47 w.params, n := 15, life := { }, gens := #[], drawn := { }, toks := 187, os := os } (piecesOf s1 env_41 C0 ⟨0, 0, 0, 0⟩ [topFrame ⟨0, 0, 0, 0⟩]) =
    some (.next, { tree := tree_134 w.params, n := 99, life := { }, gens := #[], drawn := { }, toks := 307, os := os }, C0, ⟨61, 0, 65, 54⟩) := by
  rw [Fast.te10110043849684766642, Fast.te14364793385576792824]
  kernel_rfl
theorem piece_b (w : World) (os : OsState) : segRunT treeTable PG w 11 (some (Value.ref 6)) 1 30 { tree := tree_134 w.params, n := 99, life := { }, gens := #[], drawn := { }, toks := 307, os := os } (piecesOf s2 env_41 C0 ⟨61, 0, 65, 54⟩ [topFrame ⟨0, 0, 0, 0⟩]) =
    some (.next, { tree := tree_143 w.params, n := 106, life := { }, gens := #[], drawn := { }, toks := 314, os := os }, C0, ⟨66, 0, 67, 79⟩) := by
  rw [Fast.te10110043849684766642, Fast.te14364793385576792824]
  kernel_rfl
theorem piece_c (w : World) (os : OsState) : segRunT treeTable PG w 11 (some (Value.ref 6)) 1 394 { tree := tree_143 w.params, n := 106, life := { }, gens := #[], drawn := { }, toks := 314, os := os } (piecesOf s3 env_41 C0 ⟨66, 0, 67, 79⟩ [topFrame ⟨0, 0, 0, 0⟩]) =
    some (.next, { tree := tree_201 w.params, n := 162, life := { }, gens := #[], drawn := { }, toks := 387, os := os }, C0, ⟨90, 0, 90, 8⟩) := by
  rw [Fast.te10110043849684766642, Fast.te14364793385576792824]
  kernel_rfl
theorem piece_d (w : World) (os : OsState) : segRunT treeTable PG w 11 (some (Value.ref 6)) 1 158 { tree := tree_201 w.params, n := 162, life := { }, gens := #[], drawn := { }, toks := 387, os := os } (piecesOf s4 env_41 C0 ⟨90, 0, 90, 8⟩ [topFrame ⟨0, 0, 0, 0⟩]) =
    some (.next, { tree := tree_236 w.params, n := 195, life := { }, gens := #[], drawn := { }, toks := 436, os := os }, C0, ⟨116, 0, 150, 15⟩) := by
  rw [Fast.te10110043849684766642, Fast.te14364793385576792824]
  kernel_rfl
theorem top_f (w : World) (os : OsState) : topRun treeTable PG w 11 (some (Value.ref 6)) 2 (SharedT.abs { tree := tree_236 w.params, n := 195, life := { }, gens := #[], drawn := { }, toks := 436, os := os }) (restOf [] env_41 C0 ⟨116, 0, 150, 15⟩ [topFrame ⟨0, 0, 0, 0⟩]) =
    some { heap := heap_237 w.params, toks := 436, os := os } := by kernel_rfl
theorem top_run (w : World) (os : OsState) : topRun treeTable PG w 11 (some (Value.ref 6)) (12 + (1 + (392 + (30 + (394 + (158 + 2)))))) { heap := boot_heap w.params, drawn := boot_drawn, toks := boot_toks, os := os } (topStub PG) =
    some { heap := heap_237 w.params, toks := 436, os := os } :=
  run4 s_all (top_0 w os) (top_b w os) (segRun_of (piece_a w os)) (segRun_of (piece_b w os)) (segRun_of (piece_c w os)) (segRun_of (piece_d w os)) (top_f w os)
theorem top_open (w : World) : (fencedOpening treeTable PG w 2066).map (fun s => (s.heap, s.gens, s.drawn, s.toks)) = some (boot_heap w.params, #[], boot_drawn, boot_toks) :=
  boot_open (p := PG) (by kernel_rfl) (by decide) (fun s => by kernel_rfl) w
theorem top_size (w : World) : ((boot_heap w.params).isNs mainGlobals && (#[] : Array GenState).size == 0, (boot_heap w.params).objs.size, (boot_heap w.params).nsMap mainGlobals "__annotations__") = (true, 11, some (Value.ref 6)) := by kernel_rfl
theorem left_of {q : Program} {loose : List Str} {Xt : Shared → Bool} {α : Type} {Yf : Shared → α} {Ya : World → α} {g0 : Bool}
    (looks : ∀ w : World, (fun os : OsState => ((staticsOk (importedModules PG.main.body) (boot_heap w.params) (heap_237 w.params) && namesBound PG (heap_237 w.params) && gensDone { heap := heap_237 w.params, toks := 436, os := os } && laidKept (boot_heap w.params) (heap_237 w.params)),
        openSeen q loose (importedModules PG.main.body) Xt g0 { heap := heap_237 w.params, toks := 436, os := os }, Yf { heap := heap_237 w.params, toks := 436, os := os })) = fun _ => (true, openGood q loose, Ya w)) :
    LeftO PG q loose Xt Yf Ya 2066 g0 :=
  LeftO.of_pieces (H₀ := boot_heap) (H₁ := heap_237) top_open top_size top_run (by decide) looks
theorem said_all : OpenLaw.wellSaid PySem.Challenge.rw_sj0175_01 = true := by
  unfold OpenLaw.wellSaid OpenRow.wellSaid OpenRow.partSaid looksOpen
  repeat' (with_reducible refine look_both ?_ ?_)
  all_goals decide +kernel
end Top
section
local macro_rules | `(tactic| o_law) => `(tactic| (refine holds_law (l := PySem.Challenge.rw_sj0175_01) Top.said_all fun said => ?_))
local macro_rules | `(tactic| o_head $H:term) => `(tactic| (refine holds_open (q := Mine.seenText) (loose := []) (Xt := fun s => xlAt Mine.seenText [] s && recOk (RowW.records (OpenRow.toRowW PySem.Challenge.rw_sj0175_01.row)) s) (XP := XL Mine.seenText []) (Yf := Hook.obs $H) (Ya := Hook.val $H) (YP := Hook.says $H) (N := 2066) ?hl (Hook.of $H) (Hook.keeps $H) (fun s e => xl_of s (Bool.and_eq_true_iff.mp e).1) XL.keeps (by rfl) (by rfl) (by rfl) (fun s e => recFacts_of (Bool.and_eq_true_iff.mp e).2) (by rfl) (by first | assumption | decide +kernel) (by decide +kernel) ⟨rfl, rfl, rfl, rfl, rfl, by decide +kernel⟩ ?hw ?hc; (case hl => exact Top.left_of fun w => by kernel_rfl)))
set_option maxRecDepth 100000 in
set_option maxHeartbeats 8000000 in
open_top hd for PySem.Challenge.rw_sj0175_01
end
end
section
open PySem PySem.W PyProof.Rows
/-- a tree of prefixes (lists of bits) -/
inductive PT where
  | nil
  | node (p : List Bool) (w : Option Int) (l r : PT)

/-- the address of a prefix at a width -/
def en : Nat → List Bool → Int
  | 0, _ => 0
  | _, [] => 0
  | B + 1, b :: p => (if b then 2 ^ B else 0) + en B p

def PT.depth : PT → Nat
  | .nil => 0
  | .node _ _ l r => max l.depth r.depth + 1
def PT.count : PT → Nat
  | .nil => 0
  | .node _ _ l r => 1 + l.count + r.count

abbrev tupO (vs : List Value) (n : Nat) : Obj := { cls := .type "tuple", data := .seq vs.toArray n }

inductive OW : Value → Option Int → Prop
  | none : OW .none none
  | some (i : Int) (t : Tok) : OW (.int i t) (some i)

inductive PIn (B : Nat) (news : List (Addr × Obj)) : Value → List Bool → Prop
  | mk {q : Addr} {p : List Bool} {t u : Tok} {n : Nat} : (q, tupO [.int (en B p) t, .int (p.length : Int) u] n) ∈ news → PIn B news (.ref q) p

inductive TIn (B : Nat) (news : List (Addr × Obj)) : Value → PT → Prop
  | nil : TIn B news .none .nil
  | node {a q : Addr} {p : List Bool} {w : Option Int} {l r : PT} {wv lv rv : Value} {n m : Nat} {t u : Tok} :
      (a, tupO [.ref q, wv, lv, rv] n) ∈ news → (q, tupO [.int (en B p) t, .int (p.length : Int) u] m) ∈ news → OW wv w → TIn B news lv l → TIn B news rv r → TIn B news (.ref a) (.node p w l r)
variable {B : Nat} {news news' : List (Addr × Obj)}
theorem PIn.mono {v p} (h : PIn B news v p) (hs : ∀ q ∈ news, q ∈ news') : PIn B news' v p := by
  cases h with | mk h => exact .mk (hs _ h)
theorem TIn.mono {v t} (h : TIn B news v t) (hs : ∀ q ∈ news, q ∈ news') : TIn B news' v t := by
  induction h with
  | nil => exact .nil
  | node h1 h2 h3 _ _ i1 i2 => exact .node (hs _ h1) (hs _ h2) h3 i1 i2

/-- a mark at which the walk stands still -/
def Stop (P : Prop) : Prop := P
theorem Stop.go {P : Prop} (h : Stop P) : P := h
theorem Stop.on {P : Prop} (h : P) : Stop P := h
end
section
open PySem PySem.W PyProof.Rows
inductive TRel (B : Nat) (news : List (Addr × Obj)) : List Value → PT → Prop
  | mk {v t} : TIn B news v t → TRel B news [v] t
abbrev countC (B : Nat) : ToldN PT where
  Rel := TRel B
  Ok := fun _ => True
  size := fun t => t.depth + 1
  Tl := fun _ => True
  Out := fun _ r t => ∃ tk, r = .int (t.count : Int) tk
set_option maxRecDepth 100000 in
set_option maxHeartbeats 8000000 in
theorem count_tells (B : Nat) (w : World) {p loose mean mg mb} (t : PT) : TellsN Challenge.rw_sj0175_01.row.prog w (hd.heap_1 w.params) p loose mean mg mb 105 (countC B) t := by
  k_fill
  revert t
  k_with "tree" => simp only [countC, PT.depth, PT.count] at *
  k_with "call ref" => ktn_call (Str.ofString "node_count") (countC B)
  refine tellsN_of fun d IH => ?_
  unfold TellsN
  intro dp un gd cn cs a ccd cl outer A₀ base h₀ L m news s vs Q E Bl F X N T hk hR hok hd hu hret
  cases hR
  rename_i v hT
  cases hT
  · refine wpAny_call ?_
    k_dflt ktr_enter
    k_steps
    all_goals ktn_end hret
  · refine wpAny_call ?_
    k_dflt ktr_enter
    k_steps
    all_goals trace_state
    all_goals ktn_end hret
end
section
open PySem PySem.W PyProof.Rows
theorem en_nil (B : Nat) : en B [] = 0 := by cases B <;> rfl
theorem pow2_pos (B : Nat) : (0 : Int) < 2 ^ B := Int.pow_pos (by decide)
theorem en_bound : ∀ (B : Nat) (p : List Bool), 0 ≤ en B p ∧ en B p < 2 ^ B
  | 0, p => ⟨by simp [en], by simp [en]⟩
  | B + 1, [] => ⟨by simp [en], by have := pow2_pos (B + 1); simp [en]; omega⟩
  | B + 1, b :: p => by
    have h := en_bound B p
    have h2 := pow2_pos B
    have h3 : (2 : Int) ^ (B + 1) = 2 * 2 ^ B := by rw [Int.pow_succ]; omega
    rw [h3]
    cases b <;> simp [en] <;> omega
theorem en_split : ∀ (n B : Nat) (p : List Bool), n ≤ B → en B p = en B (p.take n) + en (B - n) (p.drop n)
  | 0, B, p, _ => by simp [en_nil]
  | n + 1, 0, p, h => absurd h (by omega)
  | n + 1, B + 1, [], _ => by simp [en_nil]
  | n + 1, B + 1, b :: p, h => by
    have := en_split n B p (by omega)
    have e : B + 1 - (n + 1) = B - n := by omega
    rw [List.take_succ_cons, List.drop_succ_cons, e, en, en]
    omega
theorem en_dvd : ∀ (n B : Nat) (p : List Bool), p.length ≤ n → n ≤ B → ∃ q : Int, 0 ≤ q ∧ en B p = q * 2 ^ (B - n)
  | n, B, [], _, _ => ⟨0, by decide, by simp [en_nil]⟩
  | 0, B, b :: p, h, _ => absurd h (by simp)
  | n + 1, 0, b :: p, _, h => absurd h (by omega)
  | n + 1, B + 1, b :: p, h1, h2 => by
    obtain ⟨q, hq, e⟩ := en_dvd n B p (by simpa using h1) (by omega)
    refine ⟨(if b then 2 ^ n else 0) + q, ?_, ?_⟩
    · have := pow2_pos n
      cases b <;> simp <;> omega
    · have e1 : B + 1 - (n + 1) = B - n := by omega
      have e2 : (2 : Int) ^ B = 2 ^ n * 2 ^ (B - n) := by rw [← Int.pow_add]; congr 1; omega
      rw [e1, en, e, Int.add_mul]
      cases b
      · simp
      · simp only [if_true]; rw [e2]
theorem en_take {B n : Nat} {p : List Bool} (h1 : n ≤ p.length) (h2 : p.length ≤ B) : (en B p).fdiv (2 ^ (B - n)) * 2 ^ (B - n) = en B (p.take n) := by
  have hs := en_split n B p (by omega)
  obtain ⟨q, hq, e⟩ := en_dvd n B (p.take n) (by simp; omega) (by omega)
  have hb := en_bound (B - n) (p.drop n)
  have hp := pow2_pos (B - n)
  rw [e] at hs ⊢
  rw [hs, Int.fdiv_eq_ediv_of_nonneg _ (by omega), Int.add_comm, Int.add_mul_ediv_right _ _ (by omega), Int.ediv_eq_zero_of_lt hb.1 hb.2]
  simp
theorem en_bit {B n : Nat} {p : List Bool} (h1 : n < p.length) (h2 : p.length ≤ B) : Builtin.bitAnd ((en B p).fdiv (2 ^ (B - 1 - n))) 1 = if p.getD n false then 1 else 0 := by
  rw [bitAnd_m1]
  have hs := en_split n B p (by omega)
  obtain ⟨q, hq, e⟩ := en_dvd n B (p.take n) (by simp; omega) (by omega)
  have hd : p.drop n = p[n] :: p.drop (n + 1) := by simp
  have e1 : B - n = (B - 1 - n) + 1 := by omega
  have hb := en_bound (B - 1 - n) (p.drop (n + 1))
  have hp := pow2_pos (B - 1 - n)
  have e2 : p.getD n false = p[n] := by simp [List.getD, List.getElem?_eq_getElem h1]
  rw [e, hd, e1, en, Int.pow_succ] at hs
  rw [e2, hs]
  generalize (2 : Int) ^ (B - 1 - n) = P at *
  generalize en (B - 1 - n) (p.drop (n + 1)) = R at *
  rw [Int.fdiv_eq_ediv_of_nonneg _ (by omega)]
  have e3 : q * (P * 2) + ((if p[n] = true then P else 0) + R) = R + (2 * q + (if p[n] = true then 1 else 0)) * P := by
    rw [Int.add_mul, Int.mul_comm 2 q, Int.mul_assoc, Int.mul_comm 2 P]
    split <;> omega
  rw [e3, Int.add_mul_ediv_right _ _ (by omega), Int.ediv_eq_zero_of_lt hb.1 hb.2]
  split <;> omega
theorem fd_small {B : Nat} {p : List Bool} (h : B ≤ 4) (k : Nat) : ((en B p).fdiv (2 ^ k)).natAbs < 2 ^ 64 := by
  have hb := en_bound B p
  have hp := pow2_pos k
  have h16 : (2 : Int) ^ B ≤ 16 := by
    rcases (by omega : B = 0 ∨ B = 1 ∨ B = 2 ∨ B = 3 ∨ B = 4) with e | e | e | e | e <;> subst e <;> decide
  rw [Int.fdiv_eq_ediv_of_nonneg _ (by omega)]
  have h1 : (0 : Int) ≤ en B p / 2 ^ k := Int.ediv_nonneg hb.1 (by omega)
  have h2 : en B p / 2 ^ k ≤ en B p := Int.ediv_le_self _ hb.1
  omega
theorem en_inj : ∀ {B : Nat} {p q : List Bool}, p.length = q.length → p.length ≤ B → en B p = en B q → p = q
  | _, [], [], _, _, _ => rfl
  | _, [], _ :: _, h, _, _ => by simp at h
  | _, _ :: _, [], h, _, _ => by simp at h
  | 0, _ :: _, _ :: _, _, h, _ => by simp at h
  | B + 1, a :: p, b :: q, hl, hB, h => by
    have h1 := en_bound B p
    have h2 := en_bound B q
    simp only [en] at h
    have hab : a = b := by
      cases a <;> cases b <;> simp at h ⊢ <;> omega
    subst hab
    have := en_inj (B := B) (p := p) (q := q) (by simpa using hl) (by simpa using hB) (by omega)
    rw [this]
/-- the bits of an address -/
def bitsOf : Nat → Nat → List Bool
  | 0, _ => []
  | B + 1, a => decide (2 ^ B ≤ a) :: bitsOf B (if 2 ^ B ≤ a then a - 2 ^ B else a)
theorem bitsOf_length : ∀ B a, (bitsOf B a).length = B
  | 0, _ => rfl
  | B + 1, a => by simp [bitsOf, bitsOf_length B]
theorem en_bitsOf : ∀ (B a : Nat), a < 2 ^ B → en B (bitsOf B a) = (a : Int)
  | 0, a, h => by simp [en] at *; omega
  | B + 1, a, h => by
    rw [Nat.pow_succ] at h
    have e : ((2 ^ B : Nat) : Int) = (2 : Int) ^ B := by simp
    rw [bitsOf, en]
    by_cases h2 : 2 ^ B ≤ a
    · rw [if_pos h2, en_bitsOf B _ (by omega)]
      simp [h2]
      omega
    · rw [if_neg h2, en_bitsOf B _ (by omega)]
      simp [h2]
end
section
open PySem PySem.W PyProof.Rows
inductive FbRel (B : Nat) (news : List (Addr × Obj)) : List Value → List Bool × Nat → Prop
  | mk {p : List Bool} {n : Nat} {t u v : Tok} : FbRel B news [.int (en B p) t, .int (n : Int) u, .int (B : Int) v] (p, n)
abbrev fbC (B : Nat) : ToldN (List Bool × Nat) where
  Rel := FbRel B
  Ok := fun d => d.2 ≤ d.1.length ∧ d.1.length ≤ B ∧ B ≤ 4
  size := fun _ => 1
  Tl := fun tl => tl = []
  Out := fun _ r d => ∃ tk, r = .int (en B (d.1.take d.2)) tk
abbrev btC (B : Nat) : ToldN (List Bool × Nat) where
  Rel := FbRel B
  Ok := fun d => d.2 < d.1.length ∧ d.1.length ≤ B ∧ B ≤ 4
  size := fun _ => 1
  Tl := fun tl => tl = []
  Out := fun _ r d => (d.1.getD d.2 false = true ∧ ∃ tk, r = .int 1 tk) ∨ (d.1.getD d.2 false = false ∧ ∃ tk, r = .int 0 tk)
theorem fb_end {B n : Nat} {p : List Bool} {tk : Tok} (h1 : n ≤ p.length) (h2 : p.length ≤ B) :
    ∃ tk', Value.int ((en B p).fdiv (2 ^ ((B : Int) - n).toNat) * 2 ^ ((B : Int) - n).toNat) tk = .int (en B (p.take n)) tk' := by
  have e : ((B : Int) - n).toNat = B - n := by omega
  rw [e, en_take h1 h2]
  exact ⟨_, rfl⟩
theorem bt_end {B n : Nat} {p : List Bool} {tk : Tok} (h1 : n < p.length) (h2 : p.length ≤ B) :
    (p.getD n false = true ∧ ∃ tk', Value.int (Builtin.bitAnd ((en B p).fdiv (2 ^ ((B : Int) - 1 - n).toNat)) 1) tk = .int 1 tk') ∨
    (p.getD n false = false ∧ ∃ tk', Value.int (Builtin.bitAnd ((en B p).fdiv (2 ^ ((B : Int) - 1 - n).toNat)) 1) tk = .int 0 tk') := by
  have e : ((B : Int) - 1 - n).toNat = B - 1 - n := by omega
  rw [e, en_bit h1 h2]
  cases p.getD n false
  · exact .inr ⟨rfl, _, rfl⟩
  · exact .inl ⟨rfl, _, rfl⟩
set_option maxRecDepth 100000 in
set_option maxHeartbeats 8000000 in
theorem fb_tells (B : Nat) (w : World) {p loose mean mg mb} (d) : TellsN Challenge.rw_sj0175_01.row.prog w (hd.heap_1 w.params) p loose mean mg mb 28 (fbC B) d := by
  k_fill
  revert d
  k_with_none
  k_with "binaryOp LShift int int" => (refine' lshift_int_small ?a ?b ?c ?_; (case a => omega); (case b => omega); (case c => exact fd_small (by assumption) _))
  refine tellsN_of fun d IH => ?_
  unfold TellsN
  intro dp un gd cn cs a ccd cl outer A₀ base h₀ L m news s vs Q E Bl F X N T hk hR hok hd hu hret
  cases hR
  rename_i p n t u v
  obtain ⟨h1, h2, h3⟩ := hok
  dsimp only at h1 h2 h3
  · refine wpAny_call ?_
    k_dflt ktr_enter
    k_steps
    exact hret _ [] _ _ (by k_asm) (ktn_tl0 (by k_asm)) ktn_ord0 rfl (fb_end h1 h2)
set_option maxRecDepth 100000 in
set_option maxHeartbeats 8000000 in
theorem bt_tells (B : Nat) (w : World) {p loose mean mg mb} (d) : TellsN Challenge.rw_sj0175_01.row.prog w (hd.heap_1 w.params) p loose mean mg mb 35 (btC B) d := by
  k_fill
  revert d
  k_with_none
  refine tellsN_of fun d IH => ?_
  unfold TellsN
  intro dp un gd cn cs a ccd cl outer A₀ base h₀ L m news s vs Q E Bl F X N T hk hR hok hd hu hret
  cases hR
  rename_i p n t u v
  obtain ⟨h1, h2, h3⟩ := hok
  dsimp only at h1 h2 h3
  · refine wpAny_call ?_
    k_dflt ktr_enter
    k_steps
    exact hret _ [] _ _ (by k_asm) (ktn_tl0 (by k_asm)) ktn_ord0 rfl (bt_end h1 h2)
end
section
open PySem PySem.W PyProof.Rows PySem.Spec
def over (m : Str → Option Value) : List (Str × Value) → Str → Option Value
  | [] => m
  | (x, v) :: r => fun y => if y = x then some v else over m r y
theorem over_self {m : Str → Option Value} : ∀ {l : List (Str × Value)}, (∀ q ∈ l, m q.1 = some q.2) → over m l = m
  | [], _ => rfl
  | (x, v) :: r, h => by
    funext y
    simp only [over]
    rw [over_self (l := r) fun q hq => h q (.tail _ hq)]
    split
    · rename_i e; subst e; exact (h _ (.head _)).symm
    · rfl
theorem over1 {m : Str → Option Value} {x : Str} {v v' : Value} : ∀ y, (if y = x then some v' else if y = x then some v else m y) = over m [(x, v')] y := by
  intro y
  simp only [over]
  by_cases h : y = x <;> simp [h]
def WvEnd {σ : Type} (h₀ : Heap) (L : Addr) (s : Shared) (m : Str → Option Value) (ps : σ → List (Str × Value)) (I : σ → Prop) (μ : σ → Nat) (news : List (Addr × Obj)) (c : σ) (s₂ : Shared) : Prop :=
  ∃ h' tk m' news' c', s₂ = { s with heap := h', toks := tk } ∧ Fr h₀ L h' m' ∧ News h₀ L h' news' ∧ (∀ p ∈ news, p ∈ news') ∧ m' = over m (ps c') ∧ I c' ∧ μ c' < μ c
def WvPost {σ : Type} (h₀ : Heap) (L : Addr) (s : Shared) (m : Str → Option Value) (ps : σ → List (Str × Value)) (I : σ → Prop) (μ : σ → Nat) (news : List (Addr × Obj)) (Q : Flow → Shared → Prop) (c : σ) (f : Flow) (s₂ : Shared) : Prop :=
  match f with
  | .ret v => Q (.ret v) s₂
  | .brk => Q .next s₂
  | _ => WvEnd h₀ L s m ps I μ news c s₂
section
variable {prog : Program} {w : World} {A : Around} {E : Value → Shared → Prop} {Q : Flow → Shared → Prop} {s : Shared} {env : Env} {h₀ : Heap} {L : Addr}
theorem WvEnd.intro {σ : Type} {m m' : Str → Option Value} {ps : σ → List (Str × Value)} {I : σ → Prop} {μ : σ → Nat} {news news' : List (Addr × Obj)} {c : σ} {h' : Heap} {tk : Nat} (c' : σ) (F : Fr h₀ L h' m') (N : News h₀ L h' news') (hn : ∀ p ∈ news, p ∈ news') (hm : ∀ y, m' y = over m (ps c') y) (hI : I c') (hμ : μ c' < μ c) :
    WvEnd h₀ L s m ps I μ news c { s with heap := h', toks := tk } := ⟨_, _, _, _, c', rfl, F, N, hn, funext hm, hI, hμ⟩
theorem while_v {σ : Type} {test : Expr} {body : List Stmt} {pos : Pos} {m : Str → Option Value} {news news₀ : List (Addr × Obj)} (ps : σ → List (Str × Value)) (I : σ → Prop) (μ : σ → Nat) (c₀ : σ)
    (F : Fr h₀ L s.heap m) (N : News h₀ L s.heap news₀) (hs : ∀ p ∈ news, p ∈ news₀) (h0 : ∀ q ∈ ps c₀, m q.1 = some q.2) (hI : I c₀)
    (turn : ∀ c h tk, I c → Fr h₀ L h (over m (ps c)) → News h₀ L h news →
      wpAny (model prog w) A (isTrue test env (eval test env)) (fun b s₂ =>
        if b = true then wpAny (model prog w) A (execs body env) (WvPost h₀ L s m ps I μ news Q c) E s₂ else Q .next s₂) E { s with heap := h, toks := tk })
    (hE : PassesOwn (model prog w) A env E := by passes_own) :
    wpAny (model prog w) A (exec (.While test body [] pos) env) Q E s := by
  refine While_inv2 (fun n m' nx => nx = news ∧ ∃ c, μ c = n ∧ m' = over m (ps c) ∧ I c) F (fun p hp => N p (hs p hp)) ⟨rfl, c₀, rfl, (over_self h0).symm, hI⟩ ?_ hE
  rintro n m₁ nx h tk F₁ N₁ ⟨rfl, c, rfl, rfl, hc⟩
  refine wpAny_mono (turn c h tk hc F₁ N₁) (fun b s₂ p => ?_) fun _ _ x => x
  cases b with
  | false => simpa using p
  | true =>
    simp only [if_true] at p ⊢
    refine wpAny_mono p (fun f s₃ q => ?_) fun _ _ x => x
    cases f with
    | ret v => exact q
    | brk => exact q
    | next =>
      obtain ⟨h', tk', m', news', c', rfl, F', N', hn, hm, hI', hs⟩ := q
      exact ⟨h', tk', m', nx, μ c', rfl, F', fun p hp => N' p (hn p hp), hs, rfl, c', rfl, hm, hI'⟩
    | cont =>
      obtain ⟨h', tk', m', news', c', rfl, F', N', hn, hm, hI', hs⟩ := q
      exact ⟨h', tk', m', nx, μ c', rfl, F', fun p hp => N' p (hn p hp), hs, rfl, c', rfl, hm, hI'⟩
end
end
section
open PySem PySem.W PyProof.Rows
inductive ShRel (B : Nat) (news : List (Addr × Obj)) : List Value → List Bool × List Bool → Prop
  | mk {a b : Addr} {p q : List Bool} {t u t' u' v : Tok} {n m : Nat} :
    (a, tupO [.int (en B p) t, .int (p.length : Int) u] n) ∈ news → (b, tupO [.int (en B q) t', .int (q.length : Int) u'] m) ∈ news → ShRel B news [.ref a, .ref b, .int (B : Int) v] (p, q)
def common : List Bool → List Bool → Nat
  | a :: p, b :: q => if a = b then common p q + 1 else 0
  | _, _ => 0
abbrev shC (B : Nat) : ToldN (List Bool × List Bool) where
  Rel := ShRel B
  Ok := fun d => d.1.length ≤ B ∧ d.2.length ≤ B ∧ B ≤ 4
  size := fun _ => 4
  Tl := fun tl => tl = []
  Out := fun _ r d => ∃ tk, r = .int (common d.1 d.2 : Int) tk
theorem common_le : ∀ p q : List Bool, common p q ≤ p.length ∧ common p q ≤ q.length
  | [], _ => ⟨Nat.zero_le _, Nat.zero_le _⟩
  | _ :: _, [] => ⟨Nat.zero_le _, Nat.zero_le _⟩
  | a :: p, b :: q => by
    have := common_le p q
    simp only [common, List.length_cons]
    split <;> omega
theorem common_eq : ∀ (p q : List Bool) (i : Nat), i < common p q → p.getD i false = q.getD i false
  | [], _, _, h => absurd h (Nat.not_lt_zero _)
  | _ :: _, [], _, h => absurd h (Nat.not_lt_zero _)
  | a :: p, b :: q, i, h => by
    simp only [common] at h
    split at h
    · rename_i e
      cases i with
      | zero => simp [e]
      | succ i => simpa using common_eq p q i (by omega)
    · omega
theorem common_ne : ∀ (p q : List Bool), common p q < p.length → common p q < q.length → p.getD (common p q) false ≠ q.getD (common p q) false
  | [], _, h, _ => absurd h (Nat.not_lt_zero _)
  | _ :: _, [], _, h => absurd h (Nat.not_lt_zero _)
  | a :: p, b :: q, h1, h2 => by
    simp only [common] at h1 h2 ⊢
    by_cases e : a = b
    · rw [if_pos e] at h1 h2 ⊢
      simpa using common_ne p q (by simpa using h1) (by simpa using h2)
    · rw [if_neg e]
      simpa using e
theorem lt_ifI {i a b : Int} : (i < if a < b then a else b) ↔ (i < a ∧ i < b) := by split <;> omega
theorem sh_step {q t : List Bool} {i : Nat} (hI : i ≤ common q t) (h : (i : Int) < if (t.length : Int) < q.length then (t.length : Int) else q.length) (e : q.getD i false = t.getD i false) : i + 1 ≤ common q t := by
  rw [lt_ifI] at h
  rcases Nat.lt_or_ge i (common q t) with h1 | h1
  · exact h1
  · have e1 : common q t = i := by omega
    have := common_ne q t (by omega) (by omega)
    rw [e1] at this
    exact absurd e this
theorem sh_ne {q t : List Bool} {i : Nat} (hI : i ≤ common q t) (e : q.getD i false ≠ t.getD i false) : i = common q t := by
  rcases Nat.lt_or_ge i (common q t) with h1 | h1
  · exact absurd (common_eq q t i h1) e
  · omega
theorem sh_out {q t : List Bool} {i : Nat} (hI : i ≤ common q t) (h : ¬ ((i : Int) < if (t.length : Int) < q.length then (t.length : Int) else q.length)) : i = common q t := by
  rw [lt_ifI] at h
  have := common_le q t
  omega
local macro_rules | `(tactic| ktr_rel) => `(tactic| (show _ ∧ _ ∧ _; (try simp only [lt_ifI] at *); refine ⟨?_, ?_, ?_⟩ <;> ((try dsimp only); omega)))
local macro_rules | `(tactic| walk_at "exec While") => `(tactic| (refine Stop.go ?_))
set_option maxRecDepth 100000 in
set_option maxHeartbeats 8000000 in
theorem sh_tells (B : Nat) (w : World) {pr loose mean mg mb} (d) : TellsN Challenge.rw_sj0175_01.row.prog w (hd.heap_1 w.params) pr loose mean mg mb 42 (shC B) d := by
  k_fill
  revert d
  k_with_none
  refine tellsN_of fun d IH => ?_
  unfold TellsN
  intro dp un gd cn cs a ccd cl outer A₀ base h₀ L m news s vs Q E Bl F X N T hk hR hok hd hu hret
  cases hR
  rename_i a1 a2 q t u t' u' v n k b ha hb
  obtain ⟨h1, h2, h3⟩ := hok
  dsimp only at h1 h2 h3
  · refine wpAny_call ?_
    k_dflt ktr_enter
    k_steps
    refine Stop.on ?_
    rename_i F9 N9
    refine' while_v (σ := Nat × Tok) (news := news) (fun c => [(Str.ofString "many", .int (c.1 : Int) c.2)]) (fun c => c.1 ≤ common q t) (fun c => B - c.1) (0, ?tk0) F9 N9 (fun _ hp => .tail _ hp) (List.forall_mem_cons.mpr ⟨?h0, List.forall_mem_nil _⟩) (Nat.zero_le _) ?turn
    case h0 => exact rfl
    case turn =>
      rintro ⟨i, ti⟩ hh tkk hI F8 N8
      clear F9 N9
      dsimp only at hI
      dsimp only [over] at F8
      have Hb := bt_tells B w (p := pr) (loose := loose) (mean := mean) (mg := mg) (mb := mb)
      k_with "call ref" => (ktn_call (Str.ofString "bit_of") (btC B); (rename (_ ∧ _) ∨ (_ ∧ _) => ho9); rcases ho9 with ⟨_, _, e9⟩ | ⟨_, _, e9⟩ <;> subst e9)
      k_steps
      all_goals first
        | exact WvEnd.intro (i + 1, _) (by k_asm) (by k_asm) (fun _ h => h) over1 (sh_step hI (by assumption) (by simp only [*])) (by dsimp only; have := common_le q t; have := sh_step hI (by assumption) (by simp only [*]); omega)
        | exact hret _ [] _ _ (by k_asm) (ktn_tl0 (by k_asm)) ktn_ord0 rfl ⟨_, by rw [← sh_ne hI (by simp only [*]; decide)]⟩
        | exact hret _ [] _ _ (by k_asm) (ktn_tl0 (by k_asm)) ktn_ord0 rfl ⟨_, by rw [← sh_out hI (by assumption)]⟩
end
section
open PySem PySem.W PyProof.Rows
def withChild : PT → Bool → PT → PT
  | .nil, _, _ => .nil
  | .node q v l _, true, c => .node q v l c
  | .node q v _ r, false, c => .node q v c r
def PT.pre : PT → List Bool
  | .nil => []
  | .node q _ _ _ => q
def fork (one other : PT) (n : Nat) : PT :=
  withChild (withChild (.node (one.pre.take n) none .nil .nil) (one.pre.getD n false) one) (other.pre.getD n false) other
def put : PT → List Bool → Option Int → PT
  | .nil, p, w => .node p w .nil .nil
  | .node q v l r, p, w =>
    if common q p = q.length ∧ common q p = p.length then .node q w l r
    else if common q p = q.length then (if p.getD (common q p) false = true then .node q v l (put r p w) else .node q v (put l p w) r)
    else if common q p = p.length then withChild (.node p w .nil .nil) (q.getD (common q p) false) (.node q v l r)
    else fork (.node q v l r) (.node p w .nil .nil) (common q p)
def shrunk : PT → PT
  | .node q none .nil r => r
  | .node q none (.node a b c d) .nil => .node a b c d
  | t => t
def drop : PT → List Bool → PT
  | .nil, _ => .nil
  | .node q v l r, p =>
    if common q p < q.length then .node q v l r
    else if p.length = q.length then shrunk (.node q none l r)
    else if p.getD (common q p) false = true then shrunk (.node q v l (drop r p)) else shrunk (.node q v (drop l p) r)
/-- all prefixes are at most n long -/
def PT.lens (n : Nat) : PT → Prop
  | .nil => True
  | .node q _ l r => q.length ≤ n ∧ l.lens n ∧ r.lens n
end
section
open PySem PySem.W PyProof.Rows
section
variable {h₀ h : Heap} {L D : Addr} {o : Addr × Obj} {news tl X : List (Addr × Obj)}
theorem nw_of (N : News h₀ L h X) (S : ∀ p ∈ news ++ tl, p ∈ X) : News h₀ L h (news ++ tl) := fun p hp => N p (S p hp)
theorem nw_cons (S : ∀ p ∈ news ++ tl, p ∈ X) : ∀ p ∈ news ++ (o :: tl), p ∈ o :: X := by
  intro p hp
  rcases List.mem_append.mp hp with h | h
  · exact List.mem_cons_of_mem _ (S p (List.mem_append.mpr (.inl h)))
  · rcases List.mem_cons.mp h with h | h
    · rw [h]; exact .head _
    · exact List.mem_cons_of_mem _ (S p (List.mem_append.mpr (.inr h)))
theorem nw_id : ∀ p ∈ news ++ tl, p ∈ news ++ tl := fun _ h => h
theorem nw_id0 : ∀ p ∈ news ++ [], p ∈ news := fun _ h => by simpa using h
theorem ktn_tl0' {q : Addr × Obj} (h : q ∈ news) : q ∈ news ++ tl := List.mem_append.mpr (.inl h)
theorem od_nil : ∀ q ∈ news, ∀ p ∈ ([] : List (Addr × Obj)), q.1 < p.1 := fun _ _ _ h => nomatch h
theorem od_cons (h1 : ∀ q ∈ news, q.1 < o.1) (h2 : ∀ q ∈ news, ∀ p ∈ tl, q.1 < p.1) : ∀ q ∈ news, ∀ p ∈ o :: tl, q.1 < p.1 := by
  intro q hq p hp
  rcases List.mem_cons.mp hp with rfl | hp
  · exact h1 q hq
  · exact h2 q hq p hp
theorem od_app {tl' : List (Addr × Obj)} (h1 : ∀ q ∈ news, ∀ p ∈ tl, q.1 < p.1) (h2 : ∀ q ∈ news ++ tl, ∀ p ∈ tl', q.1 < p.1) : ∀ q ∈ news, ∀ p ∈ tl ++ tl', q.1 < p.1 := ktn_ordA h1 h2
/-- what a call made above a longer ledger -/
theorem od_sub {X : List (Addr × Obj)} (h : ∀ q ∈ X, ∀ p ∈ tl, q.1 < p.1) (S : ∀ q ∈ news, q ∈ X) : ∀ q ∈ news, ∀ p ∈ tl, q.1 < p.1 := fun q hq p hp => h q (S q hq) p hp
theorem lt_all (h : AllLt D news) : ∀ q ∈ news, q.1 < D := ktn_ltOf h
theorem lt_allA (h : AllLt D (news ++ tl)) : ∀ q ∈ news, q.1 < D := fun q hq => ktn_ltOf h q (List.mem_append.mpr (.inl hq))
theorem lt_A (h : ∀ q ∈ news ++ tl, q.1 < D) : ∀ q ∈ news, q.1 < D := fun q hq => h q (List.mem_append.mpr (.inl hq))
end
theorem beqN_t {x y : Nat} (h : x = y) : ((x : Int) == (y : Int)) = true := by simp [h]
theorem beqN_f {x y : Nat} (h : x ≠ y) : ¬ ((x : Int) == (y : Int)) = true := by simp; omega
theorem ltN_t {x y : Nat} (h : x < y) : (decide ((x : Int) < (y : Int))) = true := by simp; omega
theorem ltN_f {x y : Nat} (h : ¬ x < y) : ¬ (decide ((x : Int) < (y : Int))) = true := by simp; omega
theorem put_same {q p : List Bool} {v w : Option Int} {l r : PT} (h1 : common q p = q.length) (h2 : common q p = p.length) : put (.node q v l r) p w = .node q w l r := by
  rw [put, if_pos ⟨h1, h2⟩]
theorem put_right {q p : List Bool} {v w : Option Int} {l r : PT} (h1 : common q p = q.length) (h2 : common q p ≠ p.length) (h3 : p.getD (common q p) false = true) : put (.node q v l r) p w = .node q v l (put r p w) := by
  rw [put, if_neg (fun h => h2 h.2), if_pos h1, if_pos h3]
theorem put_left {q p : List Bool} {v w : Option Int} {l r : PT} (h1 : common q p = q.length) (h2 : common q p ≠ p.length) (h3 : p.getD (common q p) false = false) : put (.node q v l r) p w = .node q v (put l p w) r := by
  rw [put, if_neg (fun h => h2 h.2), if_pos h1, if_neg (by rw [h3]; simp)]
theorem put_above {q p : List Bool} {v w : Option Int} {l r : PT} (h1 : common q p ≠ q.length) (h2 : common q p = p.length) : put (.node q v l r) p w = withChild (.node p w .nil .nil) (q.getD (common q p) false) (.node q v l r) := by
  rw [put, if_neg (fun h => h1 h.1), if_neg h1, if_pos h2]
theorem put_fork {q p : List Bool} {v w : Option Int} {l r : PT} (h1 : common q p ≠ q.length) (h2 : common q p ≠ p.length) : put (.node q v l r) p w = fork (.node q v l r) (.node p w .nil .nil) (common q p) := by
  rw [put, if_neg (fun h => h1 h.1), if_neg h1, if_neg h2]
theorem TIn.node' {B : Nat} {news : List (Addr × Obj)} {a q : Addr} {p : List Bool} {w : Option Int} {l r : PT} {wv lv rv : Value} {n m : Nat} {t u : Tok} {x y : Int}
    (h1 : (a, tupO [.ref q, wv, lv, rv] n) ∈ news) (h2 : (q, tupO [.int x t, .int y u] m) ∈ news) (hx : x = en B p) (hy : y = (p.length : Int)) (h3 : OW wv w) (h4 : TIn B news lv l) (h5 : TIn B news rv r) : TIn B news (.ref a) (.node p w l r) := by
  subst hx hy; exact .node h1 h2 h3 h4 h5
end
section
open PySem PySem.W PyProof.Rows PySem.Spec
theorem bt_ite {b : Bool} {r : Value} (h : (b = true ∧ ∃ tk, r = .int 1 tk) ∨ (b = false ∧ ∃ tk, r = .int 0 tk)) : ∃ tk, r = .int (if b = true then 1 else 0) tk := by
  rcases h with ⟨rfl, tk, rfl⟩ | ⟨rfl, tk, rfl⟩ <;> exact ⟨tk, rfl⟩
theorem tin_h {B : Nat} {X : List (Addr × Obj)} {v : Value} {t : PT} (h : TIn B X v t) : handedIn v = true := by cases h <;> rfl
theorem ow_h {v : Value} {k : Option Int} (h : OW v k) : handedIn v = true := by cases h <;> rfl
theorem tin_ite {B : Nat} {X : List (Addr × Obj)} {v u : Value} {t r : PT} {b : Bool} (h : TIn B X v t) (g : TIn B X u r) : TIn B X (if b = true then v else u) (if b = true then t else r) := by cases b <;> assumption
theorem hand_ite {v u : Value} {b : Bool} (h : handedIn v = true) (g : handedIn u = true) : handedIn (if b = true then v else u) = true := by cases b <;> assumption
theorem ite_splitB {x y : Int} {a b : Prop} (h : x = y → a) (g : x ≠ y → b) : if (x == y) = true then a else b := by
  by_cases e : x = y
  · rw [if_pos (by simp [e])]; exact h e
  · rw [if_neg (by simp [e])]; exact g e
theorem ite_splitL {x y : Int} {a b : Prop} (h : x < y → a) (g : ¬ x < y → b) : if (decide (x < y)) = true then a else b := by
  by_cases e : x < y
  · rw [if_pos (by simp [e])]; exact h e
  · rw [if_neg (by simp [e])]; exact g e
theorem ite_splitO {o : Option Int} {a b : Prop} (h : (k : Int) → o = some k → a) (g : o = none → b) : if o.isSome = true then a else b := by
  cases o with
  | none => rw [if_neg (by simp)]; exact g rfl
  | some k => rw [if_pos (by simp)]; exact h k rfl
theorem iteB_t {x y : Int} {a b : Prop} (h : x = y) (k : a) : if (x == y) = true then a else b := by rw [if_pos (by simp [h])]; exact k
theorem iteB_f {x y : Int} {a b : Prop} (h : x ≠ y) (k : b) : if (x == y) = true then a else b := by rw [if_neg (by simp [h])]; exact k
section
variable {prog : Program} {w : World} {A : Around} {E : Value → Shared → Prop} {s : Shared} {u : Tok} {Q : Value → Shared → Prop} {h₀ : Heap} {L a : Addr} {X : List (Addr × Obj)} {x0 x1 lv rv : Value} {n : Nat} {b : Bool}
theorem item_bit {value slice : Expr} (N : News h₀ L s.heap X) (hm : (a, tupO [x0, x1, lv, rv] n) ∈ X) (h : Q (if b = true then rv else lv) s)
    (hs : subscripted slice false (.ref a) (.int (2 + if b = true then 1 else 0) u) = operate [.ref a, .int (2 + if b = true then 1 else 0) u] (getItem (.ref a) (.int (2 + if b = true then 1 else 0) u)) := by with_unfolding_all rfl) :
    wpAny (model prog w) A (subscriptTail value slice (.ref a) (.int (2 + if b = true then 1 else 0) u)) Q E s := by
  cases b
  · simp only [Bool.false_eq_true, if_false, Int.add_zero] at h hs ⊢
    exact item_tupleT (News.isTup N hm) (by decide) (by decide) rfl rfl h hs
  · simp only [if_true, show (2 : Int) + 1 = 3 from rfl] at h hs ⊢
    exact item_tupleT (News.isTup N hm) (by decide) (by decide) rfl rfl h hs
end
section
variable {prog : Program} {w : World} {A : Around} {E : Value → Shared → Prop} {s : Shared} {Q : Value → Shared → Prop} {v : Value} {o : Option Int}
theorem isNot_ow0 (h : OW v o) (q : Q (.bool o.isSome) s) : wpAny (model prog w) A (compareOp .IsNot v .none) Q E s := by
  cases h
  · exact wpAny_isNot_self (by rfl) q
  · exact wpAny_isNot_other (by rfl) (by intro x; cases x) q
end
section
variable {B : Nat} {q : List Bool} {v : Option Int} {l r : PT} {b : Bool}
theorem depth_ite : (if b = true then r else l).depth < (PT.node q v l r).depth := by cases b <;> simp [PT.depth] <;> omega
theorem depth_nil : PT.nil.depth < (PT.node q v l r).depth := by simp [PT.depth]
theorem depth_max : (if b = true then r else l).depth ≤ max l.depth r.depth := by cases b <;> simp <;> omega
theorem lens_ite (h : l.lens B) (g : r.lens B) : (if b = true then r else l).lens B := by cases b <;> assumption
theorem put_go {p : List Bool} {w : Option Int} (h1 : common q p = q.length) (h2 : common q p ≠ p.length) : put (.node q v l r) p w = withChild (.node q v l r) (p.getD (common q p) false) (put (if p.getD (common q p) false = true then r else l) p w) := by
  cases h : p.getD (common q p) false
  · rw [put_left h1 h2 h]; simp [withChild]
  · rw [put_right h1 h2 h]; simp [withChild]
theorem wc_ne {t c : PT} (h : t ≠ .nil) : withChild t b c ≠ .nil := by
  cases t with
  | nil => exact absurd rfl h
  | node => cases b <;> simp [withChild]
theorem nd_ne : PT.node q v l r ≠ .nil := by intro h; cases h
end
def PT.nn : PT → Bool
  | .nil => false
  | .node .. => true
section
variable {prog : Program} {w : World} {A : Around} {E : Value → Shared → Prop} {s : Shared} {Q : Value → Shared → Prop} {v : Value} {t : PT} {B : Nat} {X : List (Addr × Obj)}
theorem isNot_t0 (h : TIn B X v t) (q : Q (.bool t.nn) s) : wpAny (model prog w) A (compareOp .IsNot v .none) Q E s := by
  cases h
  · exact wpAny_isNot_self (by rfl) q
  · exact wpAny_isNot_other (by rfl) (by intro x; cases x) q
theorem is_t0 (h : TIn B X v t) (q : Q (.bool (!t.nn)) s) : wpAny (model prog w) A (compareOp .Is v .none) Q E s := by
  cases h
  · exact wpAny_is_self (by rfl) q
  · exact wpAny_is_other (by rfl) (by intro x; cases x) q
end
section
variable {t : PT} {a b : Prop}
theorem iteN_t (h : t ≠ .nil) (k : a) : if t.nn = true then a else b := by
  cases t with
  | nil => exact absurd rfl h
  | node => exact k
theorem iteN_f (h : t = .nil) (k : b) : if t.nn = true then a else b := by subst h; exact k
theorem ite_splitN (h : t ≠ .nil → a) (g : t = .nil → b) : if t.nn = true then a else b := by
  cases t with
  | nil => exact g rfl
  | node => exact h (by intro x; cases x)
theorem iteM_t (h : t = .nil) (k : a) : if (!t.nn) = true then a else b := by subst h; exact k
theorem iteM_f (h : t ≠ .nil) (k : b) : if (!t.nn) = true then a else b := by
  cases t with
  | nil => exact absurd rfl h
  | node => exact k
theorem ite_splitM (h : t = .nil → a) (g : t ≠ .nil → b) : if (!t.nn) = true then a else b := by
  cases t with
  | nil => exact h rfl
  | node => exact g (by intro x; cases x)
end
end
local macro_rules | `(tactic| walk_at "my mm") => `(tactic| (repeat (first | assumption | exact List.Mem.head _ | refine List.mem_cons_of_mem _ ?_)))
local macro_rules | `(tactic| ktr_rel) => `(tactic| (show _ ∧ _; (repeat' (refine And.intro ?_ ?_)) <;> ((try dsimp only); first | assumption | omega)))
local macro_rules | `(tactic| k_mem) => `(tactic| (walk_at "my mm"; first | done | (refine List.mem_append.mpr (Or.inl ?_); (walk_at "my mm"; done)) | (refine List.mem_append.mpr (Or.inr ?_); (walk_at "my mm"; first | done | (refine List.mem_append.mpr (Or.inl ?_); (walk_at "my mm"; done)) | (refine List.mem_append.mpr (Or.inr ?_); (walk_at "my mm"; first | done | (refine List.mem_append.mpr (Or.inl ?_); (walk_at "my mm"; done)) | (refine List.mem_append.mpr (Or.inr ?_); (walk_at "my mm"; first | done | (refine List.mem_append.mpr (Or.inl ?_); (walk_at "my mm"; done)) | (refine List.mem_append.mpr (Or.inr ?_); (walk_at "my mm"; first | done | (refine List.mem_append.mpr (Or.inl ?_); (walk_at "my mm"; done)) | (refine List.mem_append.mpr (Or.inr ?_); (walk_at "my mm"; done))))))))))))
local macro_rules | `(tactic| kqd_sub) => `(tactic| first | exact fun _ h => h | exact List.forall_mem_nil _ | ((refine List.forall_mem_cons.mpr ⟨?kqa, ?kqb⟩); (case kqa => k_mem); (case kqb => kqd_sub)) | ((refine List.forall_mem_append.mpr ⟨?kqa, ?kqb⟩); (case kqa => kqd_sub); (case kqb => kqd_sub)) | (intro p9 h9; k_mem))
local macro_rules | `(tactic| ktn_lt) => `(tactic| first | assumption | exact lt_A (by assumption) | exact lt_all (by assumption) | exact lt_allA (by assumption) | exact lt_all (And.right (by assumption)) | exact lt_allA (And.right (by assumption)) | exact lt_all (And.right (And.right (by assumption))) | exact lt_allA (And.right (And.right (by assumption))) | exact lt_all (And.right (And.right (And.right (by assumption)))) | exact lt_allA (And.right (And.right (And.right (by assumption)))) | exact lt_all (And.right (And.right (And.right (And.right (by assumption))))) | exact lt_allA (And.right (And.right (And.right (And.right (by assumption))))) | exact lt_all (And.right (And.right (And.right (And.right (And.right (by assumption)))))) | exact lt_allA (And.right (And.right (And.right (And.right (And.right (by assumption)))))) | exact lt_all (And.right (And.right (And.right (And.right (And.right (And.right (by assumption))))))) | exact lt_allA (And.right (And.right (And.right (And.right (And.right (And.right (by assumption))))))))
local macro_rules | `(tactic| ktn_ord) => `(tactic| first | exact od_nil | assumption | ((refine od_cons ?oda ?odb); (case oda => ktn_lt); (case odb => ktn_ord)) | ((refine od_app ?oda ?odb); (case oda => ktn_ord); (case odb => ktn_ord)) | exact od_sub (by assumption) (by kqd_sub))
local macro_rules | `(tactic| walk_at "subscriptTail") => `(tactic| ((with_reducible show wpAny _ _ (subscriptTail _ _ (Value.ref _) (Value.int _ _)) _ _ _); k_dflt (refine' item_tupleT ?t ?a ?b ?c ?d ?_; (case t => exact News.isTup (by k_asm) (by k_mem)); (case a => decide); (case b => decide); (case c => rfl); (case d => rfl); k_whole)))
local macro_rules | `(tactic| walk_at "ite") => `(tactic| (k_openite; first | (refine ite_pos (beqN_t (by assumption)) ?_) | (refine ite_neg (beqN_f (by assumption)) ?_) | (refine ite_pos (ltN_t (by assumption)) ?_) | (refine ite_neg (ltN_f (by assumption)) ?_)))
local macro_rules | `(tactic| ktn_end $h) => `(tactic| ((refine' $h _ _ _ _ ?e1 (nw_of ?e2 ?S9) ?O9 trivial ?out9); (case e1 => k_asm); (case e2 => k_asm); (case S9 => repeat' (first | exact nw_id0 | exact nw_id | refine' nw_cons ?_)); (case O9 => ktn_ord)))
local macro_rules | `(tactic| k_handed) => `(tactic| assumption)
local macro_rules | `(tactic| walk_at "my mono") => `(tactic| exact TIn.mono (by assumption) (by kqd_sub))
local macro_rules | `(tactic| walk_at "my tin") => `(tactic| (first | assumption | walk_at "my mono" | exact TIn.node (by k_mem) (by k_mem) (by first | assumption | exact OW.none) (by first | exact TIn.nil | walk_at "my mono") (by first | exact TIn.nil | walk_at "my mono") | exact TIn.node' (by k_mem) (by k_mem) rfl (by simp only [List.length_take]; omega) .none .nil .nil | exact tin_ite (TIn.mono (by assumption) (by kqd_sub)) (TIn.mono (by assumption) (by kqd_sub))))
local macro_rules | `(tactic| walk_at "my lt") => `(tactic| first | assumption | exact And.left (by assumption) | exact And.right (by assumption) | exact And.left (And.right (by assumption)) | exact And.right (And.right (by assumption)) | exact And.left (And.right (And.right (by assumption))) | exact And.right (And.right (And.right (by assumption))) | exact And.left (And.right (And.right (And.right (by assumption)))) | exact And.right (And.right (And.right (And.right (by assumption)))) | exact And.left (And.right (And.right (And.right (And.right (by assumption))))) | exact And.right (And.right (And.right (And.right (And.right (by assumption))))) | exact And.left (And.right (And.right (And.right (And.right (And.right (by assumption)))))) | exact And.right (And.right (And.right (And.right (And.right (And.right (by assumption)))))) | exact And.left (And.right (And.right (And.right (And.right (And.right (And.right (by assumption))))))) | exact And.right (And.right (And.right (And.right (And.right (And.right (And.right (by assumption))))))) | (refine Nat.lt_trans (by assumption) ?_; walk_at "my lt"))
local macro_rules | `(tactic| k_ne) => `(tactic| (refine neN ?_; (try dsimp only); first | exact Nat.ne_of_gt (by walk_at "my lt") | exact Nat.ne_of_lt (by walk_at "my lt")))
section
open PySem PySem.W PyProof.Rows
inductive WcRel (B : Nat) (news : List (Addr × Obj)) : List Value → PT × Bool × PT → Prop
  | mk {tv cv : Value} {tr c : PT} {b : Bool} {t : Tok} : TIn B news tv tr → TIn B news cv c → WcRel B news [tv, .int (if b = true then 1 else 0) t, cv] (tr, b, c)
abbrev wcC (B : Nat) : ToldN (PT × Bool × PT) where
  Rel := WcRel B
  Ok := fun d => d.1 ≠ .nil
  size := fun _ => 1
  Tl := fun _ => True
  Out := fun nw r d => TIn B nw r (withChild d.1 d.2.1 d.2.2)
inductive FkRel (B : Nat) (news : List (Addr × Obj)) : List Value → PT × PT × Nat → Prop
  | mk {tv cv : Value} {tr c : PT} {k : Nat} {t u : Tok} : TIn B news tv tr → TIn B news cv c → FkRel B news [tv, cv, .int (k : Int) t, .int (B : Int) u] (tr, c, k)
abbrev fkC (B : Nat) : ToldN (PT × PT × Nat) where
  Rel := FkRel B
  Ok := fun d => d.2.2 < d.1.pre.length ∧ d.1.pre.length ≤ B ∧ d.2.2 < d.2.1.pre.length ∧ d.2.1.pre.length ≤ B ∧ B ≤ 4
  size := fun _ => 3
  Tl := fun _ => True
  Out := fun nw r d => TIn B nw r (fork d.1 d.2.1 d.2.2)
set_option maxRecDepth 100000 in
set_option maxHeartbeats 8000000 in
theorem wc_tells (B : Nat) (w : World) {pr loose mean mg mb} (d) : TellsN Challenge.rw_sj0175_01.row.prog w (hd.heap_1 w.params) pr loose mean mg mb 49 (wcC B) d := by
  k_fill
  revert d
  k_with_none
  k_with "ite" => ((k_openite; first | (refine iteB_t (by assumption) ?_) | (refine iteB_f (by assumption) ?_) | (refine ite_splitB (fun hc9 => ?_) (fun hc9 => ?_)) | (refine ite_splitO (fun k9 hk9 => ?_) (fun hk9 => ?_))))
  k_with "compareOp IsNot" => ((refine' isNot_ow0 ?h ?_; (case h => assumption)))
  k_with "compareOp IsNot none" => ((refine' isNot_ow0 ?h ?_; (case h => assumption)))
  k_with "subscriptTail" => (((with_reducible show wpAny _ _ (subscriptTail _ _ (Value.ref _) (Value.int (HAdd.hAdd _ (ite _ _ _)) _)) _ _ _); k_dflt (refine' item_bit ?N ?m ?_; (case N => k_asm); (case m => k_mem))))
  refine tellsN_of fun d IH => ?_
  unfold TellsN
  intro dp un gd cn cs a ccd cl outer A₀ base h₀ L m news s vs Q E Bl F X N T hk hR hok hd hu hret
  cases hR
  rename_i tv cv tr c b t hT hC
  replace hok : tr ≠ .nil := hok
  have hcv := tin_h hC
  cases hT
  · exact absurd rfl hok
  · rename_i a1 q1 q v1 l r wv1 lv rv n1 n2 t1 u1 m1 m2 hw1 hl hr
    have hwv := ow_h hw1
    have hlv := tin_h hl
    have hrv := tin_h hr
    cases b
    · simp only [Bool.false_eq_true, if_false]
      refine wpAny_call ?_
      k_dflt ktr_enter
      k_steps
      ktn_end hret
      exact TIn.node (by k_mem) (by k_mem) hw1 (TIn.mono hC (by kqd_sub)) (TIn.mono hr (by kqd_sub))
    · simp only [if_true]
      refine wpAny_call ?_
      k_dflt ktr_enter
      k_steps
      ktn_end hret
      exact TIn.node (by k_mem) (by k_mem) hw1 (TIn.mono hl (by kqd_sub)) (TIn.mono hC (by kqd_sub))
section
end
end
local macro_rules | `(tactic| walk_at "my b0") => `(tactic| (show _ ∧ _; (repeat' (refine And.intro ?_ ?_)) <;> ((try dsimp only); (try simp only [PT.pre]); first | assumption | omega)))
local macro_rules | `(tactic| walk_at "my b1") => `(tactic| first | exact nd_ne | exact wc_ne nd_ne | exact wc_ne (wc_ne nd_ne))
local macro_rules | `(tactic| walk_at "my b2") => `(tactic| (refine' WcRel.mk ?x1 ?x2; (case x1 => walk_at "my tin"); (case x2 => walk_at "my tin")))
section
section
local macro_rules | `(tactic| ktr_rel) => `(tactic| walk_at "my b0")
local macro_rules | `(tactic| ktr_rel) => `(tactic| walk_at "my b1")
local macro_rules | `(tactic| ktr_rel) => `(tactic| walk_at "my b2")
set_option maxRecDepth 100000 in
set_option maxHeartbeats 8000000 in
theorem fk_tells (B : Nat) (w : World) {pr loose mean mg mb} (d) : TellsN Challenge.rw_sj0175_01.row.prog w (hd.heap_1 w.params) pr loose mean mg mb 56 (fkC B) d := by
  k_fill
  revert d
  k_with_none
  k_with "ite" => ((k_openite; first | (refine iteB_t (by assumption) ?_) | (refine iteB_f (by assumption) ?_) | (refine ite_splitB (fun hc9 => ?_) (fun hc9 => ?_)) | (refine ite_splitO (fun k9 hk9 => ?_) (fun hk9 => ?_))))
  k_with "compareOp IsNot" => ((refine' isNot_ow0 ?h ?_; (case h => assumption)))
  k_with "compareOp IsNot none" => ((refine' isNot_ow0 ?h ?_; (case h => assumption)))
  k_with "subscriptTail" => (((with_reducible show wpAny _ _ (subscriptTail _ _ (Value.ref _) (Value.int (HAdd.hAdd _ (ite _ _ _)) _)) _ _ _); k_dflt (refine' item_bit ?N ?m ?_; (case N => k_asm); (case m => k_mem))))
  refine tellsN_of fun d IH => ?_
  unfold TellsN
  intro dp un gd cn cs a ccd cl outer A₀ base h₀ L m news s vs Q E Bl F X N T hk hR hok hd hu hret
  cases hR
  rename_i tv cv tr c k t u hT hC
  obtain ⟨h1, h2, h3, h4, h5⟩ := hok
  dsimp only at h1 h2 h3 h4 h5
  have Hbt := bt_tells B w (p := pr) (loose := loose) (mean := mean) (mg := mg) (mb := mb)
  have Hfb := fb_tells B w (p := pr) (loose := loose) (mean := mean) (mg := mg) (mb := mb)
  have Hwc := wc_tells B w (pr := pr) (loose := loose) (mean := mean) (mg := mg) (mb := mb)
  k_with "call ref" => (ktn_call (Str.ofString "bit_of") (btC B); (rename (_ ∧ _) ∨ (_ ∧ _) => ho9); (obtain ⟨_, e9⟩ := bt_ite ho9); subst e9)
  k_with "call ref" => (ktn_call (Str.ofString "first_bits") (fbC B))
  k_with "call ref" => (ktn_call (Str.ofString "with_child") (wcC B); (rename TIn _ _ _ _ => ho9); (have hoh := tin_h ho9))
  have hT0 := hT
  have hC0 := hC
  have hcv := tin_h hC
  cases hT
  · simp only [PT.pre] at h1
    exact absurd h1 (Nat.not_lt_zero _)
  · cases hC
    · simp only [PT.pre] at h3
      exact absurd h3 (Nat.not_lt_zero _)
    · simp only [PT.pre] at h1 h2 h3 h4
      refine wpAny_call ?_
      k_dflt ktr_enter
      k_steps
      ktn_end hret
      exact TIn.mono (by assumption) (by kqd_sub)
end
end
section
open PySem PySem.W PyProof.Rows
local macro_rules | `(tactic| ktr_rel) => `(tactic| walk_at "my b0")
local macro_rules | `(tactic| ktr_rel) => `(tactic| walk_at "my b1")
local macro_rules | `(tactic| ktr_rel) => `(tactic| walk_at "my b2")
local macro_rules | `(tactic| ktr_rel) => `(tactic| (refine' FkRel.mk ?x1 ?x2; (case x1 => walk_at "my tin"); (case x2 => walk_at "my tin")))
inductive PutRel (B : Nat) (news : List (Addr × Obj)) : List Value → PT × List Bool × Option Int → Prop
  | mk {tv wv : Value} {b : Addr} {tr : PT} {p : List Bool} {wo : Option Int} {t u v : Tok} {n : Nat} :
    TIn B news tv tr → (b, tupO [.int (en B p) t, .int (p.length : Int) u] n) ∈ news → OW wv wo → PutRel B news [tv, .ref b, wv, .int (B : Int) v] (tr, p, wo)
local macro_rules | `(tactic| ktr_rel) => `(tactic| (refine' PutRel.mk ?x1 ?x2 ?x3; (case x1 => walk_at "my tin"); (case x2 => k_mem); (case x3 => assumption)))
abbrev putC (B : Nat) : ToldN (PT × List Bool × Option Int) where
  Rel := PutRel B
  Ok := fun d => d.1.lens B ∧ d.2.1.length ≤ B ∧ B ≤ 4
  size := fun d => d.1.depth + 10
  Tl := fun _ => True
  Out := fun nw r d => TIn B nw r (put d.1 d.2.1 d.2.2)
set_option maxRecDepth 100000 in
set_option maxHeartbeats 8000000 in
theorem put_tells (B : Nat) (w : World) {pr loose mean mg mb} (d) : TellsN Challenge.rw_sj0175_01.row.prog w (hd.heap_1 w.params) pr loose mean mg mb 63 (putC B) d := by
  k_fill
  revert d
  k_with_none
  k_with "ite" => ((k_openite; first | (refine iteB_t (by assumption) ?_) | (refine iteB_f (by assumption) ?_) | (refine ite_splitB (fun hc9 => ?_) (fun hc9 => ?_)) | (refine ite_splitO (fun k9 hk9 => ?_) (fun hk9 => ?_))))
  k_with "compareOp IsNot" => ((refine' isNot_ow0 ?h ?_; (case h => assumption)))
  k_with "compareOp IsNot none" => ((refine' isNot_ow0 ?h ?_; (case h => assumption)))
  k_with "subscriptTail" => (((with_reducible show wpAny _ _ (subscriptTail _ _ (Value.ref _) (Value.int (HAdd.hAdd _ (ite _ _ _)) _)) _ _ _); k_dflt (refine' item_bit ?N ?m ?_; (case N => k_asm); (case m => k_mem))))
  refine tellsN_of fun d IH => ?_
  unfold TellsN
  intro dp un gd cn cs a ccd cl outer A₀ base h₀ L m news s vs Q E Bl F X N T hk hR hok hd hu hret
  cases hR
  rename_i tv wv b tr p wo t u v n hT hb hw
  obtain ⟨h1, h2, h3⟩ := hok
  dsimp only at h1 h2 h3
  have Hbt := bt_tells B w (p := pr) (loose := loose) (mean := mean) (mg := mg) (mb := mb)
  have Hsh := sh_tells B w (pr := pr) (loose := loose) (mean := mean) (mg := mg) (mb := mb)
  have Hwc := wc_tells B w (pr := pr) (loose := loose) (mean := mean) (mg := mg) (mb := mb)
  have Hfk := fk_tells B w (pr := pr) (loose := loose) (mean := mean) (mg := mg) (mb := mb)
  k_with "tree" => ((show (_ : Nat) < _); simp only [shC, btC, wcC, fkC, putC, PT.depth])
  k_with "call ref" => (ktn_call (Str.ofString "bit_of") (btC B); (rename (_ ∧ _) ∨ (_ ∧ _) => ho9); (obtain ⟨_, e9⟩ := bt_ite ho9); subst e9)
  k_with "call ref" => (ktn_call (Str.ofString "shared_length") (shC B))
  k_with "call ref" => (ktn_call (Str.ofString "with_child") (wcC B); (rename TIn _ _ _ _ => ho9); (have hoh := tin_h ho9))
  k_with "call ref" => (ktn_call (Str.ofString "fork") (fkC B); (rename TIn _ _ _ _ => ho9); (have hoh := tin_h ho9))
  k_with "call ref" => (ktn_call (Str.ofString "tree_put") (putC B); (rename TIn _ _ _ _ => ho9); (have hoh := tin_h ho9))
  have hT0 := hT
  have hwh := ow_h hw
  cases hT
  · simp only [PT.depth] at hd hu
    refine wpAny_call ?_
    k_dflt ktr_enter
    k_steps
    ktn_end hret
    exact TIn.node (by k_mem) (by k_mem) hw .nil .nil
  · rename_i a1 q1 q v1 l r wv1 lv rv n1 n2 t1 u1 m1 m2 hw1 hl hr
    obtain ⟨g1, g2, g3⟩ := h1
    have hc := common_le q p
    simp only [PT.depth] at hd hu
    have hlv := tin_h hl
    have hrv := tin_h hr
    have hdi : (if p.getD (common q p) false = true then r else l).depth ≤ max l.depth r.depth := depth_max
    have hli : (if p.getD (common q p) false = true then r else l).lens B := lens_ite g2 g3
    refine wpAny_call ?_
    k_dflt ktr_enter
    k_steps
    all_goals (ktn_end hret)
    all_goals (show TIn B _ _ (put _ _ _); (try dsimp only at *))
    all_goals first
      | (rw [put_same (by omega) (by omega)]; exact TIn.node (by k_mem) (by k_mem) hw (TIn.mono hl (by kqd_sub)) (TIn.mono hr (by kqd_sub)))
      | (rw [put_go (by omega) (by omega)]; exact TIn.mono (by assumption) (by kqd_sub))
      | (rw [put_above (by omega) (by omega)]; exact TIn.mono (by assumption) (by kqd_sub))
      | (rw [put_fork (by omega) (by omega)]; exact TIn.mono (by assumption) (by kqd_sub))
end
section
open PySem PySem.W PyProof.Rows
theorem drop_lt {q p : List Bool} {v : Option Int} {l r : PT} (h1 : common q p < q.length) : drop (.node q v l r) p = .node q v l r := by
  rw [drop, if_pos h1]
theorem drop_eq {q p : List Bool} {v : Option Int} {l r : PT} (h1 : ¬ common q p < q.length) (h2 : p.length = q.length) : drop (.node q v l r) p = shrunk (.node q none l r) := by
  rw [drop, if_neg h1, if_pos h2]
theorem drop_right {q p : List Bool} {v : Option Int} {l r : PT} (h1 : ¬ common q p < q.length) (h2 : p.length ≠ q.length) (h3 : p.getD (common q p) false = true) : drop (.node q v l r) p = shrunk (.node q v l (drop r p)) := by
  rw [drop, if_neg h1, if_neg h2, if_pos h3]
theorem drop_left {q p : List Bool} {v : Option Int} {l r : PT} (h1 : ¬ common q p < q.length) (h2 : p.length ≠ q.length) (h3 : p.getD (common q p) false = false) : drop (.node q v l r) p = shrunk (.node q v (drop l p) r) := by
  rw [drop, if_neg h1, if_neg h2, if_neg (by rw [h3]; simp)]
theorem drop_go {q p : List Bool} {v : Option Int} {l r : PT} (h1 : ¬ common q p < q.length) (h2 : p.length ≠ q.length) : drop (.node q v l r) p = shrunk (withChild (.node q v l r) (p.getD (common q p) false) (drop (if p.getD (common q p) false = true then r else l) p)) := by
  cases h : p.getD (common q p) false
  · rw [drop_left h1 h2 h]; simp [withChild]
  · rw [drop_right h1 h2 h]; simp [withChild]
theorem sk_some {q : List Bool} {v : Option Int} {l r : PT} {k : Int} (h : v = some k) : shrunk (.node q v l r) = .node q v l r := by subst h; rfl
theorem sk_both {q : List Bool} {v : Option Int} {l r : PT} (h : l ≠ .nil) (g : r ≠ .nil) : shrunk (.node q v l r) = .node q v l r := by
  cases v <;> cases l <;> cases r <;> first | rfl | exact absurd rfl h | exact absurd rfl g
theorem sk_left {q : List Bool} {v : Option Int} {l r : PT} (hv : v = none) (h : l ≠ .nil) (g : r = .nil) : shrunk (.node q v l r) = l := by
  subst hv g
  cases l <;> first | rfl | exact absurd rfl h
theorem sk_right {q : List Bool} {v : Option Int} {l r : PT} (hv : v = none) (h : l = .nil) : shrunk (.node q v l r) = r := by
  subst hv h; rfl
inductive SkRel (B : Nat) (news : List (Addr × Obj)) : List Value → PT → Prop
  | mk {tv : Value} {tr : PT} : TIn B news tv tr → SkRel B news [tv] tr
abbrev skC (B : Nat) : ToldN PT where
  Rel := SkRel B
  Ok := fun d => d ≠ .nil
  size := fun _ => 1
  Tl := fun tl => tl = []
  Out := fun nw r d => TIn B nw r (shrunk d)
set_option maxRecDepth 100000 in
set_option maxHeartbeats 8000000 in
theorem sk_tells (B : Nat) (w : World) {pr loose mean mg mb} (d) : TellsN Challenge.rw_sj0175_01.row.prog w (hd.heap_1 w.params) pr loose mean mg mb 70 (skC B) d := by
  k_fill
  revert d
  k_with_none
  k_with "ite" => ((k_openite; first | (refine iteN_t (by assumption) ?_) | (refine iteN_f (by assumption) ?_) | (refine iteM_t (by assumption) ?_) | (refine iteM_f (by assumption) ?_) | (refine ite_splitO (fun k9 hk9 => ?_) (fun hk9 => ?_)) | (refine ite_splitN (fun hk9 => ?_) (fun hk9 => ?_)) | (refine ite_splitM (fun hk9 => ?_) (fun hk9 => ?_))))
  k_with "compareOp IsNot" => (first | (refine' isNot_ow0 ?h ?_; (case h => assumption)) | (refine' isNot_t0 ?h ?_; (case h => assumption)))
  k_with "compareOp IsNot none" => (first | (refine' isNot_ow0 ?h ?_; (case h => assumption)) | (refine' isNot_t0 ?h ?_; (case h => assumption)))
  k_with "compareOp Is" => ((refine' is_t0 ?h ?_; (case h => assumption)))
  k_with "compareOp Is none" => ((refine' is_t0 ?h ?_; (case h => assumption)))
  refine tellsN_of fun d IH => ?_
  unfold TellsN
  intro dp un gd cn cs a ccd cl outer A₀ base h₀ L m news s vs Q E Bl F X N T hk hR hok hd hu hret
  cases hR
  rename_i tv hT
  replace hok : d ≠ .nil := hok
  have hT0 := hT
  cases hT
  · exact absurd rfl hok
  · rename_i a1 q1 q v1 l r wv1 lv rv n1 n2 t1 u1 m1 m2 hw1 hl hr
    have hwv := ow_h hw1
    have hlv := tin_h hl
    have hrv := tin_h hr
    refine wpAny_call ?_
    k_dflt ktr_enter
    k_steps
    all_goals (refine hret _ [] _ _ (by k_asm) (ktn_tl0 (by k_asm)) ktn_ord0 rfl ?_)
    all_goals (show TIn B _ _ (shrunk (.node q v1 l r)))
    all_goals first
      | (rw [sk_some (by assumption)]; exact TIn.mono hT0 ktn_subA)
      | (rw [sk_both (by assumption) (by assumption)]; exact TIn.mono hT0 ktn_subA)
      | (rw [sk_left (by assumption) (by assumption) (by assumption)]; exact TIn.mono hl ktn_subA)
      | (rw [sk_right (by assumption) (by assumption)]; exact TIn.mono hr ktn_subA)
end
section
open PySem PySem.W PyProof.Rows
local macro_rules | `(tactic| ktr_rel) => `(tactic| walk_at "my b0")
local macro_rules | `(tactic| ktr_rel) => `(tactic| walk_at "my b1")
local macro_rules | `(tactic| ktr_rel) => `(tactic| walk_at "my b2")
local macro_rules | `(tactic| ktr_rel) => `(tactic| (refine' SkRel.mk ?x1; (case x1 => walk_at "my tin")))
inductive DrRel (B : Nat) (news : List (Addr × Obj)) : List Value → PT × List Bool → Prop
  | mk {tv : Value} {b : Addr} {tr : PT} {p : List Bool} {t u v : Tok} {n : Nat} :
    TIn B news tv tr → (b, tupO [.int (en B p) t, .int (p.length : Int) u] n) ∈ news → DrRel B news [tv, .ref b, .int (B : Int) v] (tr, p)
local macro_rules | `(tactic| ktr_rel) => `(tactic| (refine' DrRel.mk ?x1 ?x2; (case x1 => walk_at "my tin"); (case x2 => k_mem)))
abbrev drC (B : Nat) : ToldN (PT × List Bool) where
  Rel := DrRel B
  Ok := fun d => d.1.lens B ∧ d.2.length ≤ B ∧ B ≤ 4
  size := fun d => d.1.depth + 10
  Tl := fun _ => True
  Out := fun nw r d => TIn B nw r (drop d.1 d.2)
set_option maxRecDepth 100000 in
set_option maxHeartbeats 8000000 in
theorem dr_tells (B : Nat) (w : World) {pr loose mean mg mb} (d) : TellsN Challenge.rw_sj0175_01.row.prog w (hd.heap_1 w.params) pr loose mean mg mb 77 (drC B) d := by
  k_fill
  revert d
  k_with_none
  k_with "ite" => ((k_openite; first | (refine iteB_t (by assumption) ?_) | (refine iteB_f (by assumption) ?_) | (refine ite_splitB (fun hc9 => ?_) (fun hc9 => ?_)) | (refine ite_splitO (fun k9 hk9 => ?_) (fun hk9 => ?_))))
  k_with "compareOp IsNot" => ((refine' isNot_ow0 ?h ?_; (case h => assumption)))
  k_with "compareOp IsNot none" => ((refine' isNot_ow0 ?h ?_; (case h => assumption)))
  k_with "subscriptTail" => (((with_reducible show wpAny _ _ (subscriptTail _ _ (Value.ref _) (Value.int (HAdd.hAdd _ (ite _ _ _)) _)) _ _ _); k_dflt (refine' item_bit ?N ?m ?_; (case N => k_asm); (case m => k_mem))))
  k_with "ite" => ((k_openite; first | (refine ite_splitL (fun hc9 => ?_) (fun hc9 => ?_))))
  refine tellsN_of fun d IH => ?_
  unfold TellsN
  intro dp un gd cn cs a ccd cl outer A₀ base h₀ L m news s vs Q E Bl F X N T hk hR hok hd hu hret
  cases hR
  rename_i tv b tr p t u v n hT hb
  obtain ⟨h1, h2, h3⟩ := hok
  dsimp only at h1 h2 h3
  have Hbt := bt_tells B w (p := pr) (loose := loose) (mean := mean) (mg := mg) (mb := mb)
  have Hsh := sh_tells B w (pr := pr) (loose := loose) (mean := mean) (mg := mg) (mb := mb)
  have Hsk := sk_tells B w (pr := pr) (loose := loose) (mean := mean) (mg := mg) (mb := mb)
  have Hwc := wc_tells B w (pr := pr) (loose := loose) (mean := mean) (mg := mg) (mb := mb)
  k_with "tree" => ((show (_ : Nat) < _); simp only [shC, btC, skC, wcC, drC, PT.depth])
  k_with "call ref" => (ktn_call (Str.ofString "bit_of") (btC B); (rename (_ ∧ _) ∨ (_ ∧ _) => ho9); (obtain ⟨_, e9⟩ := bt_ite ho9); subst e9)
  k_with "call ref" => (ktn_call (Str.ofString "shared_length") (shC B))
  k_with "call ref" => (ktn_call (Str.ofString "with_child") (wcC B); (rename TIn _ _ _ _ => ho9); (have hoh := tin_h ho9))
  k_with "call ref" => (ktn_call (Str.ofString "shrunk") (skC B); (rename TIn _ _ _ _ => ho9); (have hoh := tin_h ho9))
  k_with "call ref" => (ktn_call (Str.ofString "tree_drop") (drC B); (rename TIn _ _ _ _ => ho9); (have hoh := tin_h ho9))
  have hT0 := hT
  cases hT
  · simp only [PT.depth] at hd hu
    refine wpAny_call ?_
    k_dflt ktr_enter
    k_steps
    ktn_end hret
    exact TIn.nil
  · rename_i a1 q1 q v1 l r wv1 lv rv n1 n2 t1 u1 m1 m2 hw1 hl hr
    obtain ⟨g1, g2, g3⟩ := h1
    have hc := common_le q p
    simp only [PT.depth] at hd hu
    have hlv := tin_h hl
    have hrv := tin_h hr
    have hdi : (if p.getD (common q p) false = true then r else l).depth ≤ max l.depth r.depth := depth_max
    have hli : (if p.getD (common q p) false = true then r else l).lens B := lens_ite g2 g3
    refine wpAny_call ?_
    k_dflt ktr_enter
    k_steps
    all_goals (ktn_end hret)
    all_goals (show TIn B _ _ (drop _ _); (try dsimp only at *))
    all_goals first
      | (rw [drop_lt (by omega)]; exact TIn.mono hT0 (by kqd_sub))
      | (rw [drop_eq (by omega) (by omega)]; exact TIn.mono (by assumption) (by kqd_sub))
      | (rw [drop_go (by omega) (by omega)]; exact TIn.mono (by assumption) (by kqd_sub))
end
section
open PySem PySem.W PyProof.Rows
def preD (B : Nat) (p : List Bool) : PyData := .tuple [.int (en B p), .int (p.length : Int)]
def owD : Option Int → PyData
  | none => .none
  | some x => .int x
def ptD (B : Nat) : PT → PyData
  | .nil => .none
  | .node p w l r => .tuple [preD B p, owD w, ptD B l, ptD B r]
def rowD (B : Nat) (r : List Bool × Int) : PyData := .tuple [preD B r.1, .int r.2]
def PT.size : PT → Nat
  | .nil => 0
  | .node _ _ l r => l.size + r.size + 1
theorem PT.depth_le : ∀ t : PT, t.depth ≤ t.count
  | .nil => Nat.le_refl _
  | .node _ _ l r => by
    have h1 := l.depth_le
    have h2 := r.depth_le
    simp only [PT.depth, PT.count]
    omega
/-- a found row: none, or a prefix and its worth -/
inductive FIn (B : Nat) (news : List (Addr × Obj)) : Value → Option (List Bool × Int) → Prop
  | none : FIn B news .none none
  | some {a q : Addr} {p : List Bool} {x : Int} {n m : Nat} {t u y : Tok} :
      (a, tupO [.ref q, .int x y] n) ∈ news → (q, tupO [.int (en B p) t, .int (p.length : Int) u] m) ∈ news → FIn B news (.ref a) (some (p, x))
theorem FIn.mono {B : Nat} {news news' : List (Addr × Obj)} {v f} (h : FIn B news v f) (hs : ∀ q ∈ news, q ∈ news') : FIn B news' v f := by
  cases h with
  | none => exact .none
  | some h1 h2 => exact .some (hs _ h1) (hs _ h2)
inductive RsIn (B : Nat) (news : List (Addr × Obj)) : List Value → List (List Bool × Int) → Prop
  | nil : RsIn B news [] []
  | cons {v : Value} {x : List Bool × Int} {vs : List Value} {xs : List (List Bool × Int)} : FIn B news v (some x) → RsIn B news vs xs → RsIn B news (v :: vs) (x :: xs)
theorem RsIn.mono {B : Nat} {news news' : List (Addr × Obj)} {v f} (h : RsIn B news v f) (hs : ∀ q ∈ news, q ∈ news') : RsIn B news' v f := by
  induction h with
  | nil => exact .nil
  | cons h1 _ ih => exact .cons (h1.mono hs) ih
theorem RsIn.append {B : Nat} {news : List (Addr × Obj)} {v v' f f'} (h : RsIn B news v f) (h' : RsIn B news v' f') : RsIn B news (v ++ v') (f ++ f') := by
  induction h with
  | nil => exact h'
  | cons h1 _ ih => exact .cons h1 ih
theorem RsIn.length {B : Nat} {news : List (Addr × Obj)} {v f} (h : RsIn B news v f) : v.length = f.length := by
  induction h with
  | nil => rfl
  | cons h1 _ ih => simp [ih]
section
variable {B : Nat} {h₀ h : Heap} {L : Addr} {news : List (Addr × Obj)}
theorem pre_reads (N : News h₀ L h news) {q : Addr} {p : List Bool} {m : Nat} {t u : Tok} (hm : (q, tupO [.int (en B p) t, .int (p.length : Int) u] m) ∈ news) : ∃ as, Reads h (.ref q) (preD B p) as :=
  ⟨_, reads_tuple_at (N.get hm) rfl rfl (.cons (.int _ _) (.cons (.int _ _) .nil))⟩
theorem OW.reads {v : Value} {w : Option Int} (h1 : OW v w) : ∃ as, Reads h v (owD w) as := by
  cases h1 with
  | none => exact ⟨_, .none⟩
  | some i t => exact ⟨_, .int i t⟩
theorem TIn.reads (N : News h₀ L h news) {v : Value} {t : PT} (hT : TIn B news v t) : ∃ as, Reads h v (ptD B t) as := by
  induction hT with
  | nil => exact ⟨_, .none⟩
  | node h1 h2 h3 _ _ i1 i2 =>
    obtain ⟨a1, r1⟩ := pre_reads N h2
    obtain ⟨a2, r2⟩ := h3.reads (h := h)
    obtain ⟨a3, r3⟩ := i1
    obtain ⟨a4, r4⟩ := i2
    exact ⟨_, reads_tuple_at (N.get h1) rfl rfl (.cons r1 (.cons r2 (.cons r3 (.cons r4 .nil))))⟩
def fD (B : Nat) : Option (List Bool × Int) → PyData
  | none => .none
  | some r => rowD B r
theorem FIn.reads (N : News h₀ L h news) {v : Value} {f} (hF : FIn B news v f) : ∃ as, Reads h v (fD B f) as := by
  cases hF with
  | none => exact ⟨_, .none⟩
  | some h1 h2 =>
    obtain ⟨a1, r1⟩ := pre_reads N h2
    exact ⟨_, reads_tuple_at (N.get h1) rfl rfl (.cons r1 (.cons (.int _ _) .nil))⟩
theorem RsIn.reads (N : News h₀ L h news) {v : List Value} {f} (hF : RsIn B news v f) : ∃ as, ReadsAll h v (f.map (rowD B)) as := by
  induction hF with
  | nil => exact ⟨_, .nil⟩
  | cons h1 _ ih =>
    obtain ⟨a1, r1⟩ := h1.reads N
    obtain ⟨a2, r2⟩ := ih
    exact ⟨_, .cons r1 r2⟩
theorem pre_lay (p : List Bool) : (preD B p).canLay0 = true ∧ (preD B p).depth = 1 := by simp [preD, PyData.canLay0, PyData.canLayAll0, PyData.depth, PyData.depthAll]
theorem ow_lay (w : Option Int) : (owD w).canLay0 = true ∧ (owD w).depth = 0 := by cases w <;> simp [owD, PyData.canLay0, PyData.depth]
theorem pt_lay : ∀ t : PT, (ptD B t).canLay0 = true ∧ (ptD B t).depth ≤ t.depth + 1
  | .nil => by simp [ptD, PyData.canLay0, PyData.depth]
  | .node p w l r => by
    have h1 := pre_lay (B := B) p
    have h2 := ow_lay w
    have h3 := pt_lay l
    have h4 := pt_lay r
    simp only [ptD, PyData.canLay0, PyData.canLayAll0, PyData.depth, PyData.depthAll, h1, h2, h3, h4, PT.depth, Bool.and_self, true_and]
    omega
theorem f_lay (f : Option (List Bool × Int)) : (fD B f).canLay0 = true ∧ (fD B f).depth ≤ 2 := by
  cases f with
  | none => simp [fD, PyData.canLay0, PyData.depth]
  | some r => simp [fD, rowD, preD, PyData.canLay0, PyData.canLayAll0, PyData.depth, PyData.depthAll]
theorem rs_lay : ∀ f : List (List Bool × Int), PyData.canLayAll0 (f.map (rowD B)) = true ∧ PyData.depthAll (f.map (rowD B)) ≤ 2
  | [] => by simp [PyData.canLayAll0, PyData.depthAll]
  | r :: f => by
    have h1 := rs_lay f
    have h2 := f_lay (B := B) (some r)
    simp only [fD] at h2
    simp only [List.map_cons, PyData.canLayAll0, PyData.depthAll, h1, h2, Bool.and_self, true_and]
    omega
theorem shaped_of {d : PyData} (h1 : d.canLay0 = true) (h2 : d.depth ≤ 64) : SeqAt.shaped d = true := by
  unfold SeqAt.shaped; rw [h1, Bool.true_and]; exact decide_eq_true h2
end
section
variable {B : Nat} {prog : Program} {w : World} {A : Around} {E : Value → Shared → Prop} {s : Shared} {h₀ : Heap} {L : Addr} {news : List (Addr × Obj)} {Q : Value → Shared → Prop}
theorem ne_same {a b : Value} {d : PyData} {as bs : List Addr} (ra : Reads s.heap a d as) (rb : Reads s.heap b d bs) (h1 : d.canLay0 = true) (h2 : d.depth ≤ 64) (hu : A.units + 64 < cLine) (h : Q (.bool false) s) :
    wpAny (model prog w) A (compareOp .NotEq a b) Q E s := by
  refine ne_dataH ra rb (shaped_of h1 h2) (shaped_of h1 h2) hu ?_
  rw [SeqAt.eqv_refl d h1]
  exact h
/-- two trees that are the same -/
theorem ne_tree (N : News h₀ L s.heap news) {a b : Value} {t : PT} (ha : TIn B news a t) (hb : TIn B news b t) (hd : t.depth ≤ 60) (hu : A.units + 64 < cLine) (h : Q (.bool false) s) :
    wpAny (model prog w) A (compareOp .NotEq a b) Q E s := by
  obtain ⟨_, ra⟩ := ha.reads N
  obtain ⟨_, rb⟩ := hb.reads N
  exact ne_same ra rb (pt_lay t).1 (Nat.le_trans (pt_lay t).2 (by omega)) hu h
theorem ne_found (N : News h₀ L s.heap news) {a b : Value} {f} (ha : FIn B news a f) (hb : FIn B news b f) (hu : A.units + 64 < cLine) (h : Q (.bool false) s) :
    wpAny (model prog w) A (compareOp .NotEq a b) Q E s := by
  obtain ⟨_, ra⟩ := ha.reads N
  obtain ⟨_, rb⟩ := hb.reads N
  exact ne_same ra rb (f_lay f).1 (Nat.le_trans (f_lay f).2 (by omega)) hu h
theorem ne_rows (N : News h₀ L s.heap news) {a b : Addr} {va vb : List Value} {n m : Nat} {f} (ma : (a, listOf va.toArray n) ∈ news) (ha : RsIn B news va f) (mb : (b, listOf vb.toArray m) ∈ news) (hb : RsIn B news vb f) (hu : A.units + 64 < cLine) (h : Q (.bool false) s) :
    wpAny (model prog w) A (compareOp .NotEq (.ref a) (.ref b)) Q E s := by
  obtain ⟨_, ra⟩ := ha.reads N
  obtain ⟨_, rb⟩ := hb.reads N
  have l := rs_lay (B := B) f
  refine ne_same (d := .list (f.map (rowD B))) (reads_list_at (N.get ma) rfl rfl (by simpa using ra)) (reads_list_at (N.get mb) rfl rfl (by simpa using rb)) ?_ ?_ hu h
  · simp [PyData.canLay0, l.1]
  · simp only [PyData.depth]; omega
/-- two prefixes -/
theorem eq_pre (N : News h₀ L s.heap news) {a b : Addr} {p q : List Bool} {n m : Nat} {t u t' u' : Tok} (ma : (a, tupO [.int (en B p) t, .int (p.length : Int) u] n) ∈ news) (mb : (b, tupO [.int (en B q) t', .int (q.length : Int) u'] m) ∈ news)
    (hp : p.length ≤ B) (hu : A.units + 64 < cLine) (h : Q (.bool (decide (p = q))) s) : wpAny (model prog w) A (compareOp .Eq (.ref a) (.ref b)) Q E s := by
  obtain ⟨_, ra⟩ := pre_reads N ma
  obtain ⟨_, rb⟩ := pre_reads N mb
  refine eq_dataH ra rb (shaped_of (pre_lay p).1 (by have := (pre_lay (B := B) p).2; omega)) (shaped_of (pre_lay q).1 (by have := (pre_lay (B := B) q).2; omega)) hu ?_
  have e : PyData.eqv (preD B p) (preD B q) = decide (p = q) := by
    simp only [preD, PyData.eqv, PyData.eqvAll, Bool.and_true]
    by_cases hpq : p = q
    · subst hpq; simp
    · rw [decide_eq_false hpq]
      rw [Bool.and_eq_false_iff]
      by_cases hl : p.length = q.length
      · left
        have := fun e => hpq (en_inj hl hp e)
        simpa using this
      · right
        have : ¬ ((p.length : Int) = q.length) := by omega
        simpa using this
  rw [e]; exact h
end
end
section
open PySem PySem.W PyProof.Rows PySem.Spec
def WgEnd {σ : Type} (h₀ : Heap) (L : Addr) (s : Shared) (m : Str → Option Value) (ps : σ → List (Str × Value)) (tl : σ → List (Addr × Obj)) (I : σ → Prop) (μ : σ → Nat) (news : List (Addr × Obj)) (c : σ) (s₂ : Shared) : Prop :=
  ∃ h' tk m' c', s₂ = { s with heap := h', toks := tk } ∧ Fr h₀ L h' m' ∧ News h₀ L h' (news ++ tl c') ∧ m' = over m (ps c') ∧ I c' ∧ μ c' < μ c
def WgPost {σ : Type} (h₀ : Heap) (L : Addr) (s : Shared) (m : Str → Option Value) (ps : σ → List (Str × Value)) (tl : σ → List (Addr × Obj)) (I : σ → Prop) (μ : σ → Nat) (news : List (Addr × Obj)) (Q : Flow → Shared → Prop) (c : σ) (f : Flow) (s₂ : Shared) : Prop :=
  match f with
  | .ret v => Q (.ret v) s₂
  | .brk => Q .next s₂
  | _ => WgEnd h₀ L s m ps tl I μ news c s₂
section
variable {prog : Program} {w : World} {A : Around} {E : Value → Shared → Prop} {Q : Flow → Shared → Prop} {s : Shared} {env : Env} {h₀ : Heap} {L : Addr}
theorem WgEnd.intro {σ : Type} {m m' : Str → Option Value} {ps : σ → List (Str × Value)} {tl : σ → List (Addr × Obj)} {I : σ → Prop} {μ : σ → Nat} {news : List (Addr × Obj)} {c : σ} {h' : Heap} {tk : Nat} (c' : σ) (F : Fr h₀ L h' m') (N : News h₀ L h' (news ++ tl c')) (hm : ∀ y, m' y = over m (ps c') y) (hI : I c') (hμ : μ c' < μ c) :
    WgEnd h₀ L s m ps tl I μ news c { s with heap := h', toks := tk } := ⟨_, _, _, c', rfl, F, N, funext hm, hI, hμ⟩
theorem while_g {σ : Type} {test : Expr} {body : List Stmt} {pos : Pos} {m : Str → Option Value} {news news₀ : List (Addr × Obj)} (ps : σ → List (Str × Value)) (tl : σ → List (Addr × Obj)) (I : σ → Prop) (μ : σ → Nat) (c₀ : σ)
    (F : Fr h₀ L s.heap m) (N : News h₀ L s.heap news₀) (hs : ∀ p ∈ news ++ tl c₀, p ∈ news₀) (h0 : ∀ q ∈ ps c₀, m q.1 = some q.2) (hI : I c₀)
    (turn : ∀ c h tk, I c → Fr h₀ L h (over m (ps c)) → News h₀ L h (news ++ tl c) →
      wpAny (model prog w) A (isTrue test env (eval test env)) (fun b s₂ =>
        if b = true then wpAny (model prog w) A (execs body env) (WgPost h₀ L s m ps tl I μ news Q c) E s₂ else Q .next s₂) E { s with heap := h, toks := tk })
    (hE : PassesOwn (model prog w) A env E := by passes_own) :
    wpAny (model prog w) A (exec (.While test body [] pos) env) Q E s := by
  refine While_inv2 (fun n m' nx => ∃ c, nx = news ++ tl c ∧ μ c = n ∧ m' = over m (ps c) ∧ I c) F (fun p hp => N p (hs p hp)) ⟨c₀, rfl, rfl, (over_self h0).symm, hI⟩ ?_ hE
  rintro n m₁ nx h tk F₁ N₁ ⟨c, rfl, rfl, rfl, hc⟩
  refine wpAny_mono (turn c h tk hc F₁ N₁) (fun b s₂ p => ?_) fun _ _ x => x
  cases b with
  | false => simpa using p
  | true =>
    simp only [if_true] at p ⊢
    refine wpAny_mono p (fun f s₃ q => ?_) fun _ _ x => x
    cases f with
    | ret v => exact q
    | brk => exact q
    | next =>
      obtain ⟨h', tk', m', c', rfl, F', N', hm, hI', hs⟩ := q
      exact ⟨h', tk', m', _, μ c', rfl, F', N', hs, c', rfl, rfl, hm, hI'⟩
    | cont =>
      obtain ⟨h', tk', m', c', rfl, F', N', hm, hI', hs⟩ := q
      exact ⟨h', tk', m', _, μ c', rfl, F', N', hs, c', rfl, rfl, hm, hI'⟩
end
theorem over2 {m : Str → Option Value} {x z : Str} {v v' u u' : Value} (h : x ≠ z) : ∀ y, (if y = x then some v' else if y = z then some u' else if y = x then some v else if y = z then some u else m y) = over m [(x, v'), (z, u')] y := by
  intro y
  simp only [over]
  by_cases h1 : y = x <;> by_cases h2 : y = z <;> simp [h1, h2]
theorem over1r {R : Str → Option Value} {x : Str} {v v' : Value} : ∀ y, (if y = x then some v' else if y = x then some v else R y) = (if y = x then some v' else R y) := by
  intro y
  by_cases h : y = x <;> simp [h]
theorem beqI_t {x y : Int} (h : x = y) : (x == y) = true := by simp [h]
theorem beqI_f {x y : Int} (h : x ≠ y) : ¬ (x == y) = true := by simp [h]
def exact : PT → List Bool → Option Int
  | .nil, _ => none
  | .node q v l r, p =>
    if q.length < p.length ∧ common q p = q.length then (if p.getD q.length false = true then exact r p else exact l p)
    else if q = p then v else none
def look (B : Nat) : Option (List Bool × Int) → PT → List Bool → Option (List Bool × Int)
  | f, .nil, _ => f
  | f, .node q v l r, a =>
    if a.take q.length = q then
      if q.length = B then (match v with | some x => some (q, x) | none => f)
      else if a.getD q.length false = true then look B (match v with | some x => some (q, x) | none => f) r a
      else look B (match v with | some x => some (q, x) | none => f) l a
    else f
section
variable {B : Nat} {f : Option (List Bool × Int)} {q a : List Bool} {v : Option Int} {x : Int} {l r : PT}
theorem look_out (c1 : a.take q.length ≠ q) : look B f (.node q v l r) a = f := by simp only [look]; rw [if_neg c1]
theorem look_stop0 (c1 : a.take q.length = q) (c3 : q.length = B) : look B f (.node q none l r) a = look B f .nil a := by simp only [look]; rw [if_pos c1, if_pos c3]
theorem look_stop1 (c1 : a.take q.length = q) (c3 : q.length = B) : look B f (.node q (some x) l r) a = look B (some (q, x)) .nil a := by simp only [look]; rw [if_pos c1, if_pos c3]
theorem look_r0 (c1 : a.take q.length = q) (c3 : q.length ≠ B) (c4 : a.getD q.length false = true) : look B f (.node q none l r) a = look B f r a := by simp only [look]; rw [if_pos c1, if_neg c3, if_pos c4]
theorem look_r1 (c1 : a.take q.length = q) (c3 : q.length ≠ B) (c4 : a.getD q.length false = true) : look B f (.node q (some x) l r) a = look B (some (q, x)) r a := by simp only [look]; rw [if_pos c1, if_neg c3, if_pos c4]
theorem look_l0 (c1 : a.take q.length = q) (c3 : q.length ≠ B) (c4 : a.getD q.length false = false) : look B f (.node q none l r) a = look B f l a := by simp only [look]; rw [if_pos c1, if_neg c3, if_neg (by rw [c4]; simp)]
theorem look_l1 (c1 : a.take q.length = q) (c3 : q.length ≠ B) (c4 : a.getD q.length false = false) : look B f (.node q (some x) l r) a = look B (some (q, x)) l a := by simp only [look]; rw [if_pos c1, if_neg c3, if_neg (by rw [c4]; simp)]
end
def rows : PT → List (List Bool × Int)
  | .nil => []
  | .node q v l r => (match v with | some x => [(q, x)] | none => []) ++ rows l ++ rows r
end
section
open PySem PySem.W PyProof.Rows PySem.Spec
theorem fin_h {B : Nat} {X : List (Addr × Obj)} {v : Value} {f} (h : FIn B X v f) : handedIn v = true := by cases h <;> rfl
end
section
open PySem PySem.W PyProof.Rows
local macro_rules | `(tactic| walk_at "ite") => `(tactic| (k_openite; first | (refine iteB_t (by assumption) ?_) | (refine iteB_f (by assumption) ?_) | (refine ite_splitB (fun hc9 => ?_) (fun hc9 => ?_)) | (refine ite_splitO (fun k9 hk9 => ?_) (fun hk9 => ?_))))
local macro_rules | `(tactic| walk_at "compareOp IsNot") => `(tactic| (refine' isNot_ow0 ?h ?_; (case h => assumption)))
local macro_rules | `(tactic| walk_at "compareOp IsNot none") => `(tactic| (refine' isNot_ow0 ?h ?_; (case h => assumption)))
local macro_rules | `(tactic| walk_at "subscriptTail") => `(tactic| ((with_reducible show wpAny _ _ (subscriptTail _ _ (Value.ref _) (Value.int (HAdd.hAdd _ (ite _ _ _)) _)) _ _ _); k_dflt (refine' item_bit ?N ?m ?_; (case N => k_asm); (case m => k_mem))))
theorem ite_splitP {c : Prop} [Decidable c] {a b : Prop} (h : c → a) (g : ¬ c → b) : if decide c = true then a else b := by
  by_cases e : c
  · rw [if_pos (by simp [e])]; exact h e
  · rw [if_neg (by simp [e])]; exact g e
local macro_rules | `(tactic| walk_at "ite") => `(tactic| (k_openite; first | (refine ite_splitP (fun hc9 => ?_) (fun hc9 => ?_))))
local macro_rules | `(tactic| walk_at "exec While") => `(tactic| (refine Stop.go ?_))
local macro_rules | `(tactic| walk_at "compareOp Eq ref ref") => `(tactic| ((with_reducible show wpAny _ _ (compareOp CmpOp.Eq (Value.ref _) (Value.ref _)) _ _ _); k_dflt (refine' eq_pre ?N ?a ?b ?c ?d ?_; (case N => k_asm); (case a => k_mem); (case b => k_mem); (case c => assumption); (case d => ktr_units); k_whole)))
abbrev exC (B : Nat) : ToldN (PT × List Bool) where
  Rel := DrRel B
  Ok := fun d => d.1.lens B ∧ d.2.length ≤ B ∧ B ≤ 4
  size := fun _ => 20
  Tl := fun tl => tl = []
  Out := fun _ r d => OW r (exact d.1 d.2)
theorem ex_go {q p : List Bool} {v : Option Int} {l r : PT} (h1 : q.length < p.length) (h2 : common q p = q.length) : exact (.node q v l r) p = exact (if p.getD q.length false = true then r else l) p := by
  simp only [exact]
  rw [if_pos ⟨h1, h2⟩]
  split <;> rfl
theorem ex_out {q p : List Bool} {v : Option Int} {l r : PT} (h : ¬ q.length < p.length ∨ common q p ≠ q.length) (k : q = p) : exact (.node q v l r) p = v := by
  rw [exact, if_neg (fun x => h.elim (fun y => y x.1) fun y => y x.2), if_pos k]
theorem ex_no {q p : List Bool} {v : Option Int} {l r : PT} (h : ¬ q.length < p.length ∨ common q p ≠ q.length) (k : q ≠ p) : exact (.node q v l r) p = none := by
  rw [exact, if_neg (fun x => h.elim (fun y => y x.1) fun y => y x.2), if_neg k]
set_option maxRecDepth 100000 in
set_option maxHeartbeats 8000000 in
theorem ex_tells (B : Nat) (w : World) {pr loose mean mg mb} (d) : TellsN Challenge.rw_sj0175_01.row.prog w (hd.heap_1 w.params) pr loose mean mg mb 91 (exC B) d := by
  k_fill
  revert d
  k_with_none
  refine tellsN_of fun d IH => ?_
  unfold TellsN
  intro dp un gd cn cs a ccd cl outer A₀ base h₀ L m news s vs Q E Bl F X N T hk hR hok hd hu hret
  cases hR
  rename_i tv b tr p t u v n hT hb
  obtain ⟨h1, h2, h3⟩ := hok
  dsimp only at h1 h2 h3
  replace hd : dp + 20 < recursionLimit := hd
  replace hu : un + 8 * 20 < cLine := hu
  have Hbt := bt_tells B w (p := pr) (loose := loose) (mean := mean) (mg := mg) (mb := mb)
  have Hsh := sh_tells B w (pr := pr) (loose := loose) (mean := mean) (mg := mg) (mb := mb)
  k_with "call ref" => (ktn_call (Str.ofString "bit_of") (btC B); (rename (_ ∧ _) ∨ (_ ∧ _) => ho9); (obtain ⟨_, e9⟩ := bt_ite ho9); subst e9)
  k_with "call ref" => (ktn_call (Str.ofString "shared_length") (shC B))
  have hh := tin_h hT
  refine wpAny_call ?_
  k_dflt ktr_enter
  k_steps
  refine Stop.on ?_
  rename_i F9 N9
  refine' while_g (σ := PT × Value) (news := news) (fun c => [(Str.ofString "node", c.2)]) (fun _ => []) (fun c => TIn B news c.2 c.1 ∧ c.1.lens B ∧ exact c.1 p = exact tr p) (fun c => c.1.depth) (tr, _) F9 N9 nw_id0 (List.forall_mem_cons.mpr ⟨?h0, List.forall_mem_nil _⟩) ⟨hT, h1, rfl⟩ ?turn
  case h0 => exact rfl
  case turn =>
    rintro ⟨t1, v1⟩ hx tkk ⟨i1, i2, i3⟩ F8 N8
    clear F9 N9
    dsimp only at i1 i2 i3
    dsimp only [over] at F8
    rw [List.append_nil] at N8
    cases i1
    · k_steps
      exact hret _ [] _ _ (by k_asm) (ktn_tl0 (by k_asm)) ktn_ord0 rfl (show OW _ (exact _ p) by rw [← i3]; exact .none)
    · rename_i a1 q1 q w1 l r wv1 lv rv n1 n2 t1 u1 m1 m2 hw1 hl hr
      obtain ⟨g1, g2, g3⟩ := i2
      have hc := common_le q p
      have hwv := ow_h hw1
      k_steps
      all_goals (try dsimp only at *)
      all_goals first
        | (refine WgEnd.intro (if _ = true then r else l, _) (by k_asm) (ktn_tl0 (by k_asm)) over1 ⟨tin_ite hr hl, lens_ite g2 g3, (ex_go (by omega) (by omega)).symm.trans i3⟩ depth_ite)
        | (refine hret _ [] _ _ (by k_asm) (ktn_tl0 (by k_asm)) ktn_ord0 rfl (show OW _ (exact _ p) from ?_); rw [← i3]; first
            | (rw [ex_out (by omega) (by assumption)]; exact hw1)
            | (rw [ex_no (by omega) (by assumption)]; exact .none))
end
section
open PySem PySem.W PyProof.Rows PySem.Spec
inductive LsIn (B : Nat) (news : List (Addr × Obj)) : Value → List (List Bool × Int) → Prop
  | mk {a : Addr} {n : Nat} {vs : List Value} {xs : List (List Bool × Int)} : (a, listOf vs.toArray n) ∈ news → RsIn B news vs xs → LsIn B news (.ref a) xs
theorem LsIn.mono {B : Nat} {news news' : List (Addr × Obj)} {v f} (h : LsIn B news v f) (hs : ∀ q ∈ news, q ∈ news') : LsIn B news' v f := by
  cases h with | mk h1 h2 => exact .mk (hs _ h1) (h2.mono hs)
theorem rows_len : ∀ t : PT, (rows t).length ≤ t.count
  | .nil => Nat.le_refl _
  | .node q v l r => by
    have h1 := rows_len l
    have h2 := rows_len r
    cases v <;> simp only [rows, PT.count, List.length_append, List.length_cons, List.length_nil] <;> omega
section
variable {prog : Program} {w : World} {A : Around} {E : Value → Shared → Prop} {s : Shared} {h₀ : Heap} {L a b : Addr} {m : Str → Option Value} {X : List (Addr × Obj)} {va vb : List Value} {n k : Nat} {Q : Value → Shared → Prop}
theorem add_rows (F : Fr h₀ L s.heap m) (N : News h₀ L s.heap X) (ma : (a, listOf va.toArray n) ∈ X) (mb : (b, listOf vb.toArray k) ∈ X) (hsz : va.length + vb.length ≤ sizeLine)
    (h : ∀ D h', Fr h₀ L h' m → News h₀ L h' ((D, listOf (va ++ vb).toArray 0) :: X) → (∀ p ∈ X, p.1 < D) → Q (.ref D) { s with heap := h' }) : wpAny (model prog w) A (binaryOp .Add (.ref a) (.ref b)) Q E s := by
  refine add_arrays F N (N.isList ma) (N.isList mb) (fun h' F' N' => ?_) (by simpa using hsz)
  exact h _ h' F' (by simpa using N') fun p hp => Heap.lt_size (N p hp).1
end
end
section
open PySem PySem.W PyProof.Rows PySem.Spec
def bg (H : Nat) (b : Bool) : Int := if b then 2 ^ H else 0
theorem bg0 {H : Nat} : (0 : Int) = bg H false := by simp [bg]
def mv (b : Bool) : PT → PT
  | .nil => .nil
  | .node q v l r => .node (b :: q) v (mv b l) (mv b r)
def joined (l h : PT) (k : Option Int) : PT := shrunk (.node [] k (mv false l) (mv true h))
theorem en_mv {H : Nat} {b : Bool} {q : List Bool} : en H q + bg H b = en (H + 1) (b :: q) := by
  simp only [en, bg]; omega
theorem mv_count (b : Bool) : ∀ t : PT, (mv b t).count = t.count
  | .nil => rfl
  | .node q v l r => by simp only [mv, PT.count, mv_count b l, mv_count b r]
theorem mv_lens {b : Bool} {H : Nat} : ∀ t : PT, t.lens H → (mv b t).lens (H + 1)
  | .nil, _ => trivial
  | .node q v l r, h => ⟨by simpa using h.1, mv_lens l h.2.1, mv_lens r h.2.2⟩
end
section
open PySem PySem.W PyProof.Rows PySem.Spec
section
variable {prog : Program} {w : World} {A : Around} {E : Value → Shared → Prop} {s : Shared} {l : Addr} {vs : List Value} {ns : List Int} {k : Int} {u : Tok} {Q : Value → Shared → Prop}
theorem len_ints (hl : s.heap.IsList l vs.toArray) (hi : IntsAre vs ns) (hn : ns.length ≤ 63) (h : ∀ t tk, Q (.int (ns.length : Int) t) { s with toks := tk }) : wpAny (model prog w) A (call (.builtin "len") [.ref l]) Q E s := by
  refine PyProof.Rows.len_list hl ?_ ?_
  · simp [hi.length]; omega
  · have := h (s.toks + 1) (s.toks + 1 + 1)
    simpa [hi.length] using this
theorem item_ints {value slice : Expr} (hl : s.heap.IsList l vs.toArray) (hi : IntsAre vs ns) (h0 : 0 ≤ k) (h1 : k < (ns.length : Int)) (h2 : k < 2 ^ 63) (h : ∀ x t, Q (.int x t) s)
    (hs : subscripted slice false (.ref l) (.int k u) = operate [.ref l, .int k u] (getItem (.ref l) (.int k u)) := by with_unfolding_all rfl) :
    wpAny (model prog w) A (subscriptTail value slice (.ref l) (.int k u)) Q E s := item_anyK hl hi h0 h1 h2 (fun t => h _ t) hs
end
end
section
open PySem PySem.W PyProof.Rows PySem.Spec
theorem common_cons (b : Bool) (p q : List Bool) : common (b :: p) (b :: q) = common p q + 1 := by simp [common]
theorem common_diff {a b : Bool} (h : a ≠ b) (p q : List Bool) : common (a :: p) (b :: q) = 0 := by simp [common, h]
theorem common_nil (p : List Bool) : common p [] = 0 := by cases p <;> rfl
theorem common_nil' (p : List Bool) : common [] p = 0 := by cases p <;> rfl
theorem mv_withChild (b : Bool) : ∀ (t : PT) (c : Bool) (u : PT), mv b (withChild t c u) = withChild (mv b t) c (mv b u)
  | .nil, _, _ => rfl
  | .node _ _ _ _, true, _ => rfl
  | .node _ _ _ _, false, _ => rfl
theorem mv_shrunk (b : Bool) : ∀ t : PT, mv b (shrunk t) = shrunk (mv b t)
  | .nil => rfl
  | .node _ (some _) _ _ => rfl
  | .node _ none .nil r => rfl
  | .node _ none (.node _ _ _ _) .nil => rfl
  | .node _ none (.node _ _ _ _) (.node _ _ _ _) => rfl
theorem mv_put (b : Bool) : ∀ (t : PT) (p : List Bool) (w : Option Int), mv b (put t p w) = put (mv b t) (b :: p) w
  | .nil, _, _ => rfl
  | .node q v l r, p, w => by
    have il := mv_put b l p w
    have ir := mv_put b r p w
    have hc := common_cons b q p
    simp only [mv]
    by_cases h1 : common q p = q.length
    · by_cases h2 : common q p = p.length
      · rw [put_same h1 h2, put_same (by rw [hc, h1]; rfl) (by rw [hc, h2]; rfl)]; rfl
      · cases h3 : p.getD (common q p) false with
        | true => rw [put_right h1 h2 h3, put_right (by rw [hc, h1]; rfl) (by rw [hc]; simpa using h2) (by rw [hc]; simpa using h3)]; simp only [mv, ir]
        | false => rw [put_left h1 h2 h3, put_left (by rw [hc, h1]; rfl) (by rw [hc]; simpa using h2) (by rw [hc]; simpa using h3)]; simp only [mv, il]
    · by_cases h2 : common q p = p.length
      · rw [put_above h1 h2, put_above (by rw [hc]; simpa using h1) (by rw [hc, h2]; rfl), mv_withChild, hc]
        simp [mv]
      · rw [put_fork h1 h2, put_fork (by rw [hc]; simpa using h1) (by rw [hc]; simpa using h2)]
        simp only [fork, mv_withChild, PT.pre, mv, hc]
        simp
theorem mv_drop (b : Bool) : ∀ (t : PT) (p : List Bool), mv b (drop t p) = drop (mv b t) (b :: p)
  | .nil, _ => rfl
  | .node q v l r, p => by
    have il := mv_drop b l p
    have ir := mv_drop b r p
    have hc := common_cons b q p
    simp only [mv, drop, hc]
    simp only [List.length_cons, Nat.add_lt_add_iff_right, Nat.add_right_cancel_iff, List.getD_cons_succ]
    split
    · rfl
    · split
      · rw [mv_shrunk]; rfl
      · split
        · rw [mv_shrunk]; simp only [mv, ir]
        · rw [mv_shrunk]; simp only [mv, il]
theorem mv_exact (b : Bool) : ∀ (t : PT) (p : List Bool), exact (mv b t) (b :: p) = exact t p
  | .nil, _ => rfl
  | .node q v l r, p => by
    have il := mv_exact b l p
    have ir := mv_exact b r p
    have hc := common_cons b q p
    simp only [mv, exact, hc, List.length_cons, Nat.add_lt_add_iff_right, Nat.add_right_cancel_iff, List.getD_cons_succ, il, ir, List.cons.injEq, true_and]
/-- a row of a half, moved -/
def mvr (b : Bool) (r : List Bool × Int) : List Bool × Int := (b :: r.1, r.2)
theorem mv_rows (b : Bool) : ∀ t : PT, rows (mv b t) = (rows t).map (mvr b)
  | .nil => rfl
  | .node q v l r => by
    have il := mv_rows b l
    have ir := mv_rows b r
    cases v <;> simp [mv, rows, il, ir, mvr]
/-- what is found below, moved, else what stood -/
def orElse (b : Bool) (f : Option (List Bool × Int)) : Option (List Bool × Int) → Option (List Bool × Int)
  | some r => some (mvr b r)
  | none => f
theorem look_mv (b : Bool) (H : Nat) : ∀ (t : PT) (f g : Option (List Bool × Int)) (a : List Bool), look (H + 1) (orElse b f g) (mv b t) (b :: a) = orElse b f (look H g t a)
  | .nil, f, g, a => rfl
  | .node q v l r, f, g, a => by
    have ir := fun g => look_mv b H r f g a
    have il := fun g => look_mv b H l f g a
    cases v with
    | none =>
      simp only [mv, look, List.length_cons, List.take_succ_cons, List.cons.injEq, true_and, Nat.add_right_cancel_iff, List.getD_cons_succ]
      split
      · split
        · rfl
        · split
          · exact ir g
          · exact il g
      · rfl
    | some x =>
      simp only [mv, look, List.length_cons, List.take_succ_cons, List.cons.injEq, true_and, Nat.add_right_cancel_iff, List.getD_cons_succ]
      split
      · split
        · rfl
        · split
          · exact ir (some (q, x))
          · exact il (some (q, x))
      · rfl
def half (b : Bool) (l h : PT) : PT := if b then h else l
theorem put_side0 (l h : PT) (k : Option Int) (p : List Bool) (w : Option Int) : put (joined l h k) (false :: p) w = joined (put l p w) h k := by
  have hl := mv_put false l p w
  have e : ∃ a b c d, put l p w = .node a b c d := by
    cases l with
    | nil => exact ⟨_, _, _, _, rfl⟩
    | node q v x y =>
      simp only [put]
      split
      · exact ⟨_, _, _, _, rfl⟩
      · split
        · split <;> exact ⟨_, _, _, _, rfl⟩
        · split
          · cases q.getD (common q p) false <;> exact ⟨_, _, _, _, rfl⟩
          · simp only [fork, PT.pre]
            cases q.getD (common q p) false <;> cases p.getD (common q p) false <;> exact ⟨_, _, _, _, rfl⟩
  obtain ⟨a, b, c, d, e⟩ := e
  rw [e] at hl ⊢
  cases k with
  | some x => simp only [joined, shrunk, mv] at hl ⊢; rw [put, if_neg (by simp [common_nil']), if_pos (by simp [common_nil']), if_neg (by simp [common_nil']), hl]
  | none =>
    cases l with
    | nil =>
      cases h with
      | nil => simp only [joined, shrunk, mv] at hl ⊢; exact hl.symm
      | node q v x y =>
        simp only [put] at e
        cases e
        simp only [joined, shrunk, mv, put]
        rw [if_neg (by simp [common]), if_neg (by simp [common]), if_neg (by simp [common])]
        simp [fork, PT.pre, common, withChild]
    | node q v x y =>
      cases h with
      | nil => simp only [joined, shrunk, mv] at hl ⊢; exact hl.symm
      | node q' v' x' y' =>
        simp only [joined, shrunk, mv] at hl ⊢
        rw [put, if_neg (by simp [common_nil']), if_pos (by simp [common_nil']), if_neg (by simp [common_nil']), ← hl]
theorem put_node (t : PT) (p : List Bool) (w : Option Int) : ∃ a b c d, put t p w = .node a b c d := by
  cases t with
  | nil => exact ⟨_, _, _, _, rfl⟩
  | node q v x y =>
    simp only [put]
    split
    · exact ⟨_, _, _, _, rfl⟩
    · split
      · split <;> exact ⟨_, _, _, _, rfl⟩
      · split
        · cases q.getD (common q p) false <;> exact ⟨_, _, _, _, rfl⟩
        · simp only [fork, PT.pre]
          cases q.getD (common q p) false <;> cases p.getD (common q p) false <;> exact ⟨_, _, _, _, rfl⟩
theorem put_side1 (l h : PT) (k : Option Int) (p : List Bool) (w : Option Int) : put (joined l h k) (true :: p) w = joined l (put h p w) k := by
  have hl := mv_put true h p w
  obtain ⟨a, b, c, d, e⟩ := put_node h p w
  rw [e] at hl ⊢
  cases k with
  | some x => simp only [joined, shrunk, mv] at hl ⊢; rw [put, if_neg (by simp [common_nil']), if_pos (by simp [common_nil']), if_pos (by simp [common_nil']), hl]
  | none =>
    cases h with
    | nil =>
      cases l with
      | nil => simp only [joined, shrunk, mv] at hl ⊢; exact hl.symm
      | node q v x y =>
        simp only [put] at e
        cases e
        simp only [joined, shrunk, mv, put]
        rw [if_neg (by simp [common]), if_neg (by simp [common]), if_neg (by simp [common])]
        simp [fork, PT.pre, common, withChild]
    | node q v x y =>
      cases l with
      | nil => simp only [joined, shrunk, mv] at hl ⊢; exact hl.symm
      | node q' v' x' y' =>
        simp only [joined, shrunk, mv] at hl ⊢
        rw [put, if_neg (by simp [common_nil']), if_pos (by simp [common_nil']), if_pos (by simp [common_nil']), ← hl]
theorem put_all (l h : PT) (k : Option Int) (x : Int) : put (joined l h k) [] (some x) = joined l h (some x) := by
  cases k <;> cases l <;> cases h <;> simp [joined, shrunk, mv, put, common, common_nil, withChild]
theorem drop_all (l h : PT) (x : Int) : drop (joined l h (some x)) [] = joined l h none := by
  show drop (.node [] (some x) (mv false l) (mv true h)) [] = shrunk (.node [] none (mv false l) (mv true h))
  rw [drop, if_neg (by simp), if_pos rfl]
theorem exact_all (l h : PT) (x : Int) : exact (joined l h (some x)) [] = some x := by
  simp only [joined, shrunk, exact]
  rw [if_neg (by simp)]; simp
theorem exact_side0 (l h : PT) (k : Option Int) (p : List Bool) : exact (joined l h k) (false :: p) = exact l p := by
  have hl := mv_exact false l p
  cases k with
  | some x => simp only [joined, shrunk]; rw [exact, if_pos (by simp [common_nil'])]; simp [hl]
  | none =>
    cases l with
    | nil =>
      cases h with
      | nil => rfl
      | node q v x y => simp only [joined, shrunk, mv, exact]; rw [if_neg (by simp [common]), if_neg (by simp)]
    | node q v x y =>
      cases h with
      | nil => simpa only [joined, shrunk, mv] using hl
      | node q' v' x' y' => simp only [joined, shrunk, mv] at hl ⊢; rw [exact, if_pos (by simp [common_nil'])]; simpa using hl
theorem exact_side1 (l h : PT) (k : Option Int) (p : List Bool) : exact (joined l h k) (true :: p) = exact h p := by
  have hl := mv_exact true h p
  cases k with
  | some x => simp only [joined, shrunk]; rw [exact, if_pos (by simp [common_nil'])]; simp [hl]
  | none =>
    cases h with
    | nil =>
      cases l with
      | nil => rfl
      | node q v x y => simp only [joined, shrunk, mv, exact]; rw [if_neg (by simp [common]), if_neg (by simp)]
    | node q v x y =>
      cases l with
      | nil => simpa only [joined, shrunk, mv] using hl
      | node q' v' x' y' => simp only [joined, shrunk, mv] at hl ⊢; rw [exact, if_pos (by simp [common_nil'])]; simpa using hl
theorem drop_side0 (l h : PT) (k : Option Int) (p : List Bool) : drop (joined l h k) (false :: p) = joined (drop l p) h k := by
  have hl := mv_drop false l p
  cases k with
  | some x => simp only [joined, shrunk]; rw [drop, if_neg (by simp), if_neg (by simp), if_neg (by simp [common_nil']), ← hl]; rfl
  | none =>
    cases l with
    | nil =>
      cases h with
      | nil => rfl
      | node q v x y => simp only [joined, shrunk, mv, drop]; rw [if_pos (by simp [common])]
    | node q v x y =>
      cases h with
      | nil =>
        simp only [joined, shrunk, mv] at hl ⊢
        rw [← hl]
        cases drop (.node q v x y) p <;> rfl
      | node q' v' x' y' =>
        show drop (.node [] none (mv false (.node q v x y)) (mv true (.node q' v' x' y'))) (false :: p) = shrunk (.node [] none (mv false (drop (.node q v x y) p)) (mv true (.node q' v' x' y')))
        rw [drop, if_neg (by simp), if_neg (by simp), if_neg (by simp [common_nil']), ← hl]
theorem drop_side1 (l h : PT) (k : Option Int) (p : List Bool) : drop (joined l h k) (true :: p) = joined l (drop h p) k := by
  have hl := mv_drop true h p
  cases k with
  | some x => simp only [joined, shrunk]; rw [drop, if_neg (by simp), if_neg (by simp), if_pos (by simp [common_nil']), ← hl]; rfl
  | none =>
    cases h with
    | nil =>
      cases l with
      | nil => rfl
      | node q v x y => simp only [joined, shrunk, mv, drop]; rw [if_pos (by simp [common])]
    | node q v x y =>
      cases l with
      | nil =>
        simp only [joined, shrunk, mv] at hl ⊢
        rw [← hl]
      | node q' v' x' y' =>
        show drop (.node [] none (mv false (.node q' v' x' y')) (mv true (.node q v x y))) (true :: p) = shrunk (.node [] none (mv false (.node q' v' x' y')) (mv true (drop (.node q v x y) p)))
        rw [drop, if_neg (by simp), if_neg (by simp), if_pos (by simp [common_nil']), ← hl]
theorem rows_joined (l h : PT) (k : Option Int) : rows (joined l h k) = (match k with | some x => [([], x)] | none => []) ++ (rows l).map (mvr false) ++ (rows h).map (mvr true) := by
  have hl := mv_rows false l
  have hh := mv_rows true h
  cases k with
  | some x => simp only [joined, shrunk, rows, hl, hh]
  | none =>
    cases l <;> cases h <;> simp only [joined, shrunk, mv] at hl hh ⊢
    · rfl
    · rw [hh]; simp [rows]
    · rw [hl]; simp [rows]
    · simp only [rows] at hl hh ⊢; rw [hl, hh]
def PT.isN : PT → Bool
  | .nil => true
  | _ => false
theorem count_joined (l h : PT) (k : Option Int) : (joined l h k).count = l.count + h.count + (if (k.isSome || (!l.isN && !h.isN)) = true then 1 else 0) := by
  have hl := mv_count false l
  have hh := mv_count true h
  cases k with
  | some x => simp only [joined, shrunk, PT.count, hl, hh]; simp; omega
  | none =>
    cases l <;> cases h <;> simp only [joined, shrunk, mv] at hl hh ⊢
    · rfl
    · rw [hh]; simp [PT.count, PT.isN]
    · rw [hl]; simp [PT.count, PT.isN]
    · simp only [PT.count] at hl hh ⊢; simp [PT.isN]; omega
def top (k : Option Int) : Option (List Bool × Int) := match k with | some x => some ([], x) | none => none
theorem look_side (b : Bool) (H : Nat) (l h : PT) (k : Option Int) (a : List Bool) : look (H + 1) none (joined l h k) (b :: a) = orElse b (top k) (look H none (half b l h) a) := by
  have hl := fun f => look_mv b H l f none a
  have hh := fun f => look_mv b H h f none a
  cases k with
  | some x =>
    simp only [joined, shrunk]
    cases b
    · rw [look_l1 (by simp) (by simp) (by simp)]; exact hl (some ([], x))
    · rw [look_r1 (by simp) (by simp) (by simp)]; exact hh (some ([], x))
  | none =>
    cases l <;> cases h <;> simp only [joined, shrunk, mv] at hl hh ⊢
    · cases b <;> rfl
    · cases b
      · rw [look_out (by simp)]; rfl
      · exact hh none
    · cases b
      · exact hl none
      · rw [look_out (by simp)]; rfl
    · cases b
      · rw [look_l0 (by simp) (by simp) (by simp)]; exact hl none
      · rw [look_r0 (by simp) (by simp) (by simp)]; exact hh none
theorem withChild_count (t : PT) (c : Bool) (u : PT) : (withChild t c u).count ≤ t.count + u.count := by
  cases t with
  | nil => simp [withChild, PT.count]
  | node q v l r => cases c <;> simp only [withChild, PT.count] <;> omega
theorem put_count : ∀ (t : PT) (p : List Bool) (w : Option Int), (put t p w).count ≤ t.count + 2
  | .nil, _, _ => by simp [put, PT.count]
  | .node q v l r, p, w => by
    have il := put_count l p w
    have ir := put_count r p w
    simp only [put]
    split
    · simp only [PT.count]; omega
    · split
      · split <;> simp only [PT.count] <;> omega
      · split
        · refine Nat.le_trans (withChild_count _ _ _) ?_
          simp only [PT.count]; omega
        · refine Nat.le_trans (withChild_count _ _ _) ?_
          have := withChild_count (.node ((PT.node q v l r).pre.take (common q p)) none .nil .nil) ((PT.node q v l r).pre.getD (common q p) false) (.node q v l r)
          simp only [PT.count] at this ⊢; omega
theorem shrunk_count (t : PT) : (shrunk t).count ≤ t.count := by
  unfold shrunk
  split
  · simp only [PT.count]; omega
  · simp only [PT.count]; omega
  · exact Nat.le_refl _
theorem drop_count : ∀ (t : PT) (p : List Bool), (drop t p).count ≤ t.count
  | .nil, _ => by simp [drop]
  | .node q v l r, p => by
    have il := drop_count l p
    have ir := drop_count r p
    simp only [drop]
    split
    · exact Nat.le_refl _
    · split
      · refine Nat.le_trans (shrunk_count _) ?_; simp only [PT.count]; omega
      · split <;> (refine Nat.le_trans (shrunk_count _) ?_; simp only [PT.count]; omega)
theorem withChild_lens {n : Nat} {t : PT} {c : Bool} {u : PT} (h : t.lens n) (k : u.lens n) : (withChild t c u).lens n := by
  cases t with
  | nil => trivial
  | node q v l r => cases c <;> exact ⟨h.1, by first | exact k | exact h.2.1, by first | exact k | exact h.2.2⟩
theorem put_lens {n : Nat} : ∀ (t : PT) (p : List Bool) (w : Option Int), t.lens n → p.length ≤ n → (put t p w).lens n
  | .nil, _, _, _, h => ⟨h, trivial, trivial⟩
  | .node q v l r, p, w, g, h => by
    have il := put_lens l p w g.2.1 h
    have ir := put_lens r p w g.2.2 h
    simp only [put]
    split
    · exact g
    · split
      · split
        · exact ⟨g.1, g.2.1, ir⟩
        · exact ⟨g.1, il, g.2.2⟩
      · split
        · exact withChild_lens ⟨h, trivial, trivial⟩ g
        · refine withChild_lens (withChild_lens ⟨?_, trivial, trivial⟩ g) ⟨h, trivial, trivial⟩
          have := g.1
          simp only [PT.pre, List.length_take]; omega
theorem shrunk_lens {n : Nat} (t : PT) (h : t.lens n) : (shrunk t).lens n := by
  unfold shrunk
  split
  · exact h.2.2
  · exact h.2.1
  · exact h
theorem drop_lens {n : Nat} : ∀ (t : PT) (p : List Bool), t.lens n → (drop t p).lens n
  | .nil, _, _ => trivial
  | .node q v l r, p, g => by
    have il := drop_lens l p g.2.1
    have ir := drop_lens r p g.2.2
    simp only [drop]
    split
    · exact g
    · split
      · exact shrunk_lens _ ⟨g.1, g.2.1, g.2.2⟩
      · split
        · exact shrunk_lens _ ⟨g.1, g.2.1, ir⟩
        · exact shrunk_lens _ ⟨g.1, il, g.2.2⟩
theorem rows_lens {n : Nat} : ∀ (t : PT), t.lens n → ∀ r ∈ rows t, r.1.length ≤ n
  | .nil, _, r, h => by simp [rows] at h
  | .node q v l x, g, r, h => by
    have il := rows_lens l g.2.1 r
    have ix := rows_lens x g.2.2 r
    simp only [rows, List.mem_append] at h
    rcases h with (h | h) | h
    · cases v with
      | none => simp at h
      | some y => simp at h; rw [h]; exact g.1
    · exact il h
    · exact ix h
theorem joined_lens {H : Nat} {l h : PT} {k : Option Int} (a : l.lens H) (b : h.lens H) : (joined l h k).lens (H + 1) :=
  shrunk_lens _ ⟨by simp, mv_lens l a, mv_lens h b⟩
end
section
open PySem PySem.W PyProof.Rows PySem.Spec
theorem en_draw : ∀ (n H a : Nat), n ≤ H → a < 2 ^ n → en H (bitsOf n a) = (a : Int) * 2 ^ (H - n)
  | 0, H, a, _, h => by
    have : a = 0 := by simpa using h
    subst this
    simp [bitsOf, en_nil]
  | n + 1, 0, a, h, _ => absurd h (by omega)
  | n + 1, H + 1, a, hn, h => by
    rw [Nat.pow_succ] at h
    have e1 : H + 1 - (n + 1) = H - n := by omega
    have e2 : (2 : Int) ^ H = 2 ^ n * 2 ^ (H - n) := by rw [← Int.pow_add]; congr 1; omega
    have e3 : ((2 ^ n : Nat) : Int) = (2 : Int) ^ n := by simp
    rw [bitsOf, en, e1]
    by_cases h2 : 2 ^ n ≤ a
    · rw [if_pos h2, en_draw n H _ (by omega) (by omega)]
      simp only [h2, decide_true, if_true]
      rw [e2, Int.ofNat_sub h2, e3, Int.sub_mul]
      omega
    · rw [if_neg h2, en_draw n H _ (by omega) (by omega)]
      simp [h2]
abbrev fibD (w : World) (B : Nat) (v : Value) (t1 t2 t3 : Tok) : Obj :=
  dictOf [{ hash := PyData.keyHash w.params (Str.ofString "bits"), key := .str (Str.ofString "bits") t1, val := .int (B : Int) t2 },
    { hash := PyData.keyHash w.params (Str.ofString "tree"), key := .str (Str.ofString "tree") t3, val := v }] 2
section
variable {B : Nat} {prog : Program} {w : World} {A : Around} {E : Value → Shared → Prop} {s : Shared} {h₀ : Heap} {L : Addr} {news : List (Addr × Obj)} {Q : Value → Shared → Prop}
/-- rows against the empty list -/
theorem ne_rows_nil (N : News h₀ L s.heap news) {a b : Addr} {va : List Value} {n m : Nat} {f} (ma : (a, listOf va.toArray n) ∈ news) (ha : RsIn B news va f) (mb : (b, listOf #[] m) ∈ news) (hu : A.units + 64 < cLine) (h : Q (.bool (!f.isEmpty)) s) :
    wpAny (model prog w) A (compareOp .NotEq (.ref a) (.ref b)) Q E s := by
  obtain ⟨_, ra⟩ := ha.reads N
  have l := rs_lay (B := B) f
  refine ne_dataH (da := .list (f.map (rowD B))) (db := .list []) (reads_list_at (N.get ma) rfl rfl (by simpa using ra)) (reads_list_at (N.get mb) rfl rfl .nil) (shaped_of ?_ ?_) (shaped_of ?_ ?_) hu ?_
  · simp [PyData.canLay0, l.1]
  · simp only [PyData.depth]; omega
  · simp [PyData.canLay0, PyData.canLayAll0]
  · simp [PyData.depth, PyData.depthAll]
  · have e : PyData.eqv (.list (f.map (rowD B))) (.list []) = f.isEmpty := by cases f <;> simp [PyData.eqv, PyData.eqvAll]
    rw [e]; exact h
end
theorem ne_tl {tl : List (Addr × Obj)} {d hv : Addr} (h : ∀ p ∈ tl, hv < p.1) (e : @LE.le Nat _ d hv) : ∀ p ∈ tl, p.1 ≠ d := fun p hp q => by
  have := h p hp
  rw [q] at this
  exact Nat.lt_irrefl _ (Nat.lt_of_lt_of_le this e)
theorem ne_tl9 {X tl : List (Addr × Obj)} {d : Addr} {o : Obj} (h : ∀ q ∈ X, ∀ p ∈ tl, q.1 < p.1) (hm : (d, o) ∈ X) : ∀ p ∈ tl, p.1 ≠ d := fun p hp q => by
  have := h _ hm p hp
  rw [q] at this
  exact Nat.lt_irrefl _ this
/-- the law's own statement, out of the given program -/
def lawStmt : Stmt := match Challenge.pw_sj0175_01.main.body.getLast? with
  | some s => s
  | none => .Pass ⟨0, 0, 0, 0⟩
def lawScope : Scope := match lawStmt with
  | .FunctionDef _ _ _ _ _ _ sc _ _ _ => sc
  | _ => Challenge.pw_sj0175_01.main.scope
def lawBody : List Stmt := match lawStmt with
  | .FunctionDef _ _ b _ _ _ _ _ _ _ => b
  | _ => []
def lawFor : Stmt := (lawBody[3]?).getD (.Pass ⟨0, 0, 0, 0⟩)
def turnBody : List Stmt := match lawFor with
  | .For _ _ b _ _ => b
  | _ => []
end
section
open PySem PySem.W PyProof.Rows PySem.Spec
def ifStmt : Stmt := (turnBody[1]?).getD (.Pass ⟨0, 0, 0, 0⟩)
/-- the way of the turn in which a half is turned -/
def elseBody : List Stmt := match ifStmt with
  | .If _ _ e _ => e
  | _ => []
/-- put or drop -/
def pdStmt : Stmt := (elseBody[2]?).getD (.Pass ⟨0, 0, 0, 0⟩)
def dropBody : List Stmt := match pdStmt with
  | .If _ _ e _ => e
  | _ => []
/-- what the law makes ahead of its loop -/
structure KO where
  (H : Nat) (ls bx dw xw d0 x0 d1 x1 hv : Addr) (ws : List Value) (ns : List Int) (c' c'' : Nat) (oz : Obj) (tz : Tok)
structure KO.Ok (κ : KO) (L : Addr) : Prop where
  hH : κ.H = 2 ∨ κ.H = 3
  o2 : @LT.lt Nat _ (L + 2) κ.ls
  o3 : @LT.lt Nat _ κ.ls κ.bx
  o4 : @LT.lt Nat _ κ.bx κ.dw
  o5 : @LT.lt Nat _ κ.dw κ.xw
  o6 : @LT.lt Nat _ κ.xw κ.d0
  o7 : @LT.lt Nat _ κ.d0 κ.x0
  o8 : @LT.lt Nat _ κ.x0 κ.d1
  o9 : @LT.lt Nat _ κ.d1 κ.x1
  o10 : @LT.lt Nat _ κ.x1 κ.hv
  hI : IntsAre κ.ws κ.ns
  hlen : κ.ns.length ≤ 63
  hz : κ.oz.data = .cell (some (.int (2 ^ κ.H) κ.tz))
/-- what a turn changes -/
structure SO where
  (k : Int) (kt tb : Tok) (c : Nat) (so : Obj) (known : Option Int) (kv vw v0 v1 : Value) (tl th : PT) (gl : List (Addr × Obj)) (a1 a2 a3 b1 b2 b3 e1 e2 e3 : Tok)
/-- n: the puts so far; K: the draws so far -/
structure SO.Pre (κ : KO) (σ : SO) (n K : Nat) : Prop where
  hk0 : 0 ≤ σ.k
  hk1 : σ.k ≤ K
  hkv : OW σ.kv σ.known
  hl0 : σ.tl.lens κ.H
  hl1 : σ.th.lens κ.H
  hc0 : σ.tl.count ≤ 2 * n
  hc1 : σ.th.count ≤ 2 * n
  h0 : TIn κ.H σ.gl σ.v0 σ.tl
  h1 : TIn κ.H σ.gl σ.v1 σ.th
  hw : TIn (κ.H + 1) σ.gl σ.vw (joined σ.tl σ.th σ.known)
  hso : ∃ v, σ.so.data = .cell v
structure SO.Ok (κ : KO) (σ : SO) (n K : Nat) : Prop where
  pre : σ.Pre κ n K
  hgl : ∀ p ∈ σ.gl, @LT.lt Nat _ κ.hv p.1
abbrev led (w : World) (L : Addr) (κ : KO) (σ : SO) : List (Addr × Obj) :=
  (κ.bx, listOf #[.ref κ.ls, .int σ.k σ.kt] σ.c) :: (L + 2, σ.so) :: (κ.dw, fibD w (κ.H + 1) σ.vw σ.a1 σ.a2 σ.a3) :: (κ.d0, fibD w κ.H σ.v0 σ.b1 σ.b2 σ.b3) :: (κ.d1, fibD w κ.H σ.v1 σ.e1 σ.e2 σ.e3) ::
  (κ.ls, listOf κ.ws.toArray κ.c') :: (L + 1, κ.oz) :: (κ.xw, instObj 157 κ.dw) :: (κ.x0, instObj 157 κ.d0) :: (κ.x1, instObj 157 κ.d1) :: (κ.hv, listOf #[.ref κ.x0, .ref κ.x1] κ.c'') :: σ.gl
abbrev nms (κ : KO) (σ : SO) : List (Str × Value) :=
  [(Str.ofString "box", .ref κ.bx), (Str.ofString "bits", .int ((κ.H + 1 : Nat) : Int) σ.tb), (Str.ofString "known", σ.kv), (Str.ofString "whole", .ref κ.xw), (Str.ofString "halves", .ref κ.hv)]
/-- the state between two statements of a turn; R: the further names, and what is known of them -/
def TurnSt (w : World) (κ : KO) (gl₀ : List (Addr × Obj)) (h₀ : Heap) (L : Addr) (n K : Nat) (R : SO → List (Str × Value) → Prop) (s s' : Shared) : Prop :=
  ∃ h' tk m' σ x, s' = { s with heap := h', toks := tk } ∧ Fr h₀ L h' m' ∧ (∀ q ∈ x ++ nms κ σ, m' q.1 = some q.2) ∧ News h₀ L h' (led w L κ σ) ∧ σ.Ok κ n K ∧ R σ x ∧ ∀ p ∈ gl₀, p ∈ σ.gl
def NoX (_ : SO) (x : List (Str × Value)) : Prop := x = []
end
section
open PySem PySem.W PyProof.Rows PySem.Spec
theorem TIn.handed {B : Nat} {news : List (Addr × Obj)} {v : Value} {t : PT} (h : TIn B news v t) : handedIn v = true := by cases h <;> rfl
theorem OW.handed {v : Value} {k : Option Int} (h : OW v k) : handedIn v = true := by cases h <;> rfl
theorem PutRel.mk' {B : Nat} {news : List (Addr × Obj)} {tv wv : Value} {b : Addr} {tr : PT} {p : List Bool} {wo : Option Int} {t u v : Tok} {n : Nat} {x y : Int}
    (h1 : TIn B news tv tr) (h2 : (b, tupO [.int x t, .int y u] n) ∈ news) (hx : x = en B p) (hy : y = (p.length : Int)) (h3 : OW wv wo) : PutRel B news [tv, .ref b, wv, .int (B : Int) v] (tr, p, wo) := by
  subst hx hy; exact .mk h1 h2 h3
theorem DrRel.mk' {B : Nat} {news : List (Addr × Obj)} {tv : Value} {b : Addr} {tr : PT} {p : List Bool} {t u v : Tok} {n : Nat} {x y : Int}
    (h1 : TIn B news tv tr) (h2 : (b, tupO [.int x t, .int y u] n) ∈ news) (hx : x = en B p) (hy : y = (p.length : Int)) : DrRel B news [tv, .ref b, .int (B : Int) v] (tr, p) := by
  subst hx hy; exact .mk h1 h2
theorem TurnSt.of {w : World} {κ : KO} {gl₀ : List (Addr × Obj)} {h₀ : Heap} {L : Addr} {n K : Nat} {R : SO → List (Str × Value) → Prop} {s : Shared} {h' : Heap} {tk : Nat} {m' : Str → Option Value} {X : List (Addr × Obj)} (σ : SO) (x : List (Str × Value))
    (F : Fr h₀ L h' m') (N : News h₀ L h' X) (hs : ∀ p ∈ led w L κ σ, p ∈ X) (hm : ∀ q ∈ x ++ nms κ σ, m' q.1 = some q.2) (ok : σ.Ok κ n K) (hr : R σ x) (hg : ∀ p ∈ gl₀, p ∈ σ.gl) : TurnSt w κ gl₀ h₀ L n K R s { s with heap := h', toks := tk } :=
  ⟨_, _, _, σ, x, rfl, F, hm, fun p hp => N p (hs p hp), ok, hr, hg⟩
theorem TIn.above {B : Nat} {X : List (Addr × Obj)} {hv : Addr} {v : Value} {t : PT} (h : TIn B X v t) (hX : ∀ p ∈ X, @LT.lt Nat _ hv p.1 ∨ ∀ vs n, p.2 ≠ tupO vs n) : TIn B (X.filter fun p => decide (@LT.lt Nat _ hv p.1)) v t := by
  have key : ∀ {a : Addr} {vs : List Value} {n : Nat}, (a, tupO vs n) ∈ X → (a, tupO vs n) ∈ X.filter fun p => decide (@LT.lt Nat _ hv p.1) := fun hm => List.mem_filter.mpr ⟨hm, decide_eq_true ((hX _ hm).elim id fun h => absurd rfl (h _ _))⟩
  induction h with
  | nil => exact .nil
  | node h1 h2 h3 _ _ i1 i2 => exact .node (key h1) (key h2) h3 i1 i2
theorem TIn.move {B : Nat} {X X' : List (Addr × Obj)} {v : Value} {t : PT} (h : TIn B X v t) (hX : ∀ p ∈ X, p ∈ X' ∨ ∀ vs n, p.2 ≠ tupO vs n) : TIn B X' v t := by
  have key : ∀ {a : Addr} {vs : List Value} {n : Nat}, (a, tupO vs n) ∈ X → (a, tupO vs n) ∈ X' := fun hm => (hX _ hm).elim id fun h => absurd rfl (h _ _)
  induction h with
  | nil => exact .nil
  | node h1 h2 h3 _ _ i1 i2 => exact .node (key h1) (key h2) h3 i1 i2
theorem TurnSt.fin {w : World} {κ : KO} {gl₀ : List (Addr × Obj)} {h₀ : Heap} {L : Addr} {n K : Nat} {R : SO → List (Str × Value) → Prop} {s : Shared} {h' : Heap} {tk : Nat} {m' : Str → Option Value} {X : List (Addr × Obj)} (σ : SO) (x : List (Str × Value))
    (F : Fr h₀ L h' m') (N : News h₀ L h' X) (hX : ∀ p ∈ X, @LT.lt Nat _ κ.hv p.1 ∨ ∀ vs n, p.2 ≠ tupO vs n) (hs : ∀ p ∈ led w L κ { σ with gl := [] }, p ∈ X) (hm : ∀ q ∈ x ++ nms κ σ, m' q.1 = some q.2)
    (ok : SO.Pre κ { σ with gl := X } n K) (hr : ∀ g, R { σ with gl := g } x) (hg : ∀ p ∈ gl₀, p ∈ X) (hg' : ∀ p ∈ gl₀, @LT.lt Nat _ κ.hv p.1) : TurnSt w κ gl₀ h₀ L n K R s { s with heap := h', toks := tk } := by
  obtain ⟨p1, p2, p3, p4, p5, p6, p7, p8, p9, p10, p11⟩ := ok
  refine ⟨_, _, _, { σ with gl := X.filter fun p => decide (@LT.lt Nat _ κ.hv p.1) }, x, rfl, F, hm, fun p hp => N p ?_, ⟨⟨p1, p2, p3, p4, p5, p6, p7, p8.above hX, p9.above hX, p10.above hX, p11⟩, fun p hp => by simpa using (List.mem_filter.mp hp).2⟩, hr _, fun p hp => List.mem_filter.mpr ⟨hg p hp, by simpa using hg' p hp⟩⟩
  have hp' : p ∈ led w L κ { σ with gl := [] } ++ X.filter fun p => decide (@LT.lt Nat _ κ.hv p.1) := hp
  rcases List.mem_append.mp hp' with h | h
  · exact hs p h
  · exact (List.mem_filter.mp h).1
theorem no_cls {o : Obj} {c : String} (h : o.cls = .type c) (hc : c ≠ "tuple") : ∀ vs n, o ≠ tupO vs n := fun vs n e => by
  rw [e] at h
  exact hc (Value.type.inj h).symm
theorem no_dat {o : Obj} {d : Data} (h : o.data = d) (hc : ∀ vs n, d ≠ .seq vs n) : ∀ vs n, o ≠ tupO vs n := fun vs n e => by
  rw [e] at h
  exact hc _ _ h.symm
theorem no_cell {o : Obj} {v : Option Value} (h : o.data = .cell v) : ∀ vs n, o ≠ tupO vs n := no_dat h fun _ _ e => by cases e
theorem no_list {a : Array Value} {c : Nat} : ∀ vs n, listOf a c ≠ tupO vs n := no_cls rfl (by decide)
theorem no_dict {es} {c : Nat} : ∀ vs n, dictOf es c ≠ tupO vs n := no_cls rfl (by decide)
theorem no_inst {a d : Addr} : ∀ vs n, instObj a d ≠ tupO vs n := fun vs n e => by
  have := congrArg Obj.cls e
  cases this
theorem ab_tl {X tl : List (Addr × Obj)} {hv : Addr} {o : Obj} (h : ∀ q ∈ X, ∀ p ∈ tl, q.1 < p.1) (hm : (hv, o) ∈ X) : ∀ p ∈ tl, @LT.lt Nat _ hv p.1 ∨ ∀ vs n, p.2 ≠ tupO vs n := fun p hp => .inl (h _ hm p hp)
theorem ab_gl {gl : List (Addr × Obj)} {hv : Addr} (h : ∀ p ∈ gl, @LT.lt Nat _ hv p.1) : ∀ p ∈ gl, @LT.lt Nat _ hv p.1 ∨ ∀ vs n, p.2 ≠ tupO vs n := fun p hp => .inl (h p hp)
theorem ab_new {X : List (Addr × Obj)} {hv D : Addr} {o o' : Obj} (h : AllLt D X) (hm : (hv, o) ∈ X) : @LT.lt Nat _ hv (D, o').1 ∨ ∀ vs n, (D, o').2 ≠ tupO vs n := .inl (lt_all h _ hm)
theorem ab_new' {X : List (Addr × Obj)} {hv D : Addr} {o o' : Obj} (h : ∀ q ∈ X, q.1 < D) (hm : (hv, o) ∈ X) : @LT.lt Nat _ hv (D, o').1 ∨ ∀ vs n, (D, o').2 ≠ tupO vs n := .inl (h _ hm)
theorem joined_depth {H n : Nat} {l h : PT} {k : Option Int} (_ : l.lens H) (_ : h.lens H) (a : l.count ≤ n) (b : h.count ≤ n) : (joined l h k).depth ≤ 2 * n + 1 := by
  have jc := count_joined l h k
  have jd := (joined l h k).depth_le
  have : (if (k.isSome || (!l.isN && !h.isN)) = true then 1 else 0) ≤ 1 := by split <;> omega
  omega
end
section
open PySem PySem.W PyProof.Rows PySem.Spec
section
variable {prog : Program} {w : World} {A : Around} {E : Value → Shared → Prop} {s : Shared} {t u : Tok} {Q : Value → Shared → Prop}
theorem pow2_small {n : Int} (h0 : 0 ≤ n) (h1 : n ≤ 3) (h : ∀ z tk, z = 2 ^ n.toNat → 0 < z → z ≤ 8 → Q (.int z tk) { s with toks := s.toks + 1 }) : wpAny (model prog w) A (binaryOp .Pow (.int 2 t) (.int n u)) Q E s := by
  refine pow_int_small h0 (by omega) (by decide) (h _ _ rfl (Int.pow_pos (by decide)) ?_)
  obtain ⟨k, rfl⟩ := Int.eq_ofNat_of_zero_le h0
  have : k = 0 ∨ k = 1 ∨ k = 2 ∨ k = 3 := by omega
  rcases this with rfl | rfl | rfl | rfl <;> decide
theorem mul_small {a b : Int} (h0 : 0 ≤ a) (h1 : a ≤ 1000) (h : ∀ z tk, z = a * b → Q (.int z tk) { s with toks := s.toks + 1 }) : wpAny (model prog w) A (binaryOp .Mult (.int a t) (.int b u)) Q E s :=
  PyProof.Rows.mul_int (h _ _ rfl) (.of_left (intBits_le_64 (by omega) (by omega)))
theorem mul_bit {b : Bool} {c : Int} (h : ∀ tk, Q (.int (if b then c else 0) tk) { s with toks := s.toks + 1 }) : wpAny (model prog w) A (binaryOp .Mult (.int (if b then 1 else 0) t) (.int c u)) Q E s := by
  refine PyProof.Rows.mul_int ?_ (.of_left (by cases b <;> decide))
  have := h s.toks
  cases b
  · simpa using this
  · simpa using this
end
theorem execs_wp {M : Model} {A : Around} {env : Env} {E : Value → Shared → Prop} {Q : Flow → Shared → Prop} {b : List Stmt} {Γ : PySem.Ctx} (hΓ : Γ.In A) : ∀ (a : List Stmt) (p : _) (s : Shared),
    Sem.wp M Γ (execs a env) (fun f _ s' => match f with | .next => wpAny M A (execs b env) Q E s' | f => Q f s') (fun e _ s' => E e s') p s → Sem.wp M Γ (execs (a ++ b) env) (fun f _ s' => Q f s') (fun e _ s' => E e s') p s
  | [], p, s, h => by
    have h' : wpAny M A (execs b env) Q E s := h
    exact h' Γ p hΓ
  | st :: rest, p, s, h => by
    rw [execs_cons, Sem.wp_bind'] at h
    show Sem.wp M Γ (execs (st :: (rest ++ b)) env) _ _ p s
    rw [execs_cons, Sem.wp_bind']
    refine Sem.wp_mono M Γ _ (fun f p' s' h' => ?_) (fun _ _ _ h' => h') _ _ h
    cases f with
    | next => exact execs_wp hΓ rest p' s' h'
    | _ => exact h'
theorem execs_append {M : Model} {A : Around} {env : Env} {E : Value → Shared → Prop} {Q : Flow → Shared → Prop} {a b : List Stmt} {s : Shared} (h : wpAny M A (execs a env) (fun f s' => match f with | .next => wpAny M A (execs b env) Q E s' | f => Q f s') E s) : wpAny M A (execs (a ++ b) env) Q E s :=
  fun Γ p hΓ => execs_wp hΓ a p s (h Γ p hΓ)
theorem spot_ex {H : Nat} {r1 r2 z many e : Int} (hz : z = r2 * e) (he : e = 2 ^ (((H + 1 : Nat) : Int) - 1 - r1).toNat) (hm : many = 2 ^ r1.toNat) (h3 : r2 < many) (h2 : 0 ≤ r2) (h1 : r1 < ((H + 1 : Nat) : Int)) (h0 : 0 ≤ r1) : ∃ p : List Bool, p.length ≤ H ∧ r1 = (p.length : Int) ∧ z = en H p := by
  obtain ⟨n, rfl⟩ := Int.eq_ofNat_of_zero_le h0
  obtain ⟨a, rfl⟩ := Int.eq_ofNat_of_zero_le h2
  have hn : n ≤ H := by omega
  have ha : a < 2 ^ n := by
    rw [hm] at h3
    have : ((2 ^ n : Nat) : Int) = (2 : Int) ^ n := by simp
    simp only [Int.toNat_natCast] at h3
    omega
  refine ⟨bitsOf n a, by rw [bitsOf_length]; exact hn, by rw [bitsOf_length], ?_⟩
  rw [en_draw n H a hn ha, hz, he]
  congr 2
  omega
theorem bit_ex {r : Int} (h1 : r < 2) (h0 : 0 ≤ r) : ∃ b : Bool, r = if b then 1 else 0 := by
  have : r = 0 ∨ r = 1 := by omega
  rcases this with rfl | rfl
  · exact ⟨false, rfl⟩
  · exact ⟨true, rfl⟩
section
variable {prog : Program} {w : World} {A : Around} {E : Value → Shared → Prop} {s : Shared} {t u : Tok} {Q : Value → Shared → Prop}
theorem mul_zero' {c : Int} (h : ∀ tk, Q (.int 0 tk) { s with toks := s.toks + 1 }) : wpAny (model prog w) A (binaryOp .Mult (.int 0 t) (.int c u)) Q E s :=
  PyProof.Rows.mul_int (by rw [Int.zero_mul]; exact h _) (.of_left (by decide))
theorem mul_one' {c : Int} (h : ∀ tk, Q (.int c tk) { s with toks := s.toks + 1 }) : wpAny (model prog w) A (binaryOp .Mult (.int 1 t) (.int c u)) Q E s :=
  PyProof.Rows.mul_int (by rw [Int.one_mul]; exact h _) (.of_left (by decide))
end
theorem en_f {H : Nat} {p : List Bool} : en H p + 0 = en (H + 1) (false :: p) := by simp [en]
theorem en_t {H : Nat} {p : List Bool} : en H p + 2 ^ H = en (H + 1) (true :: p) := by simp [en]; omega
theorem len_s {p : List Bool} {b : Bool} : (p.length : Int) + 1 = ((b :: p).length : Int) := by simp
section
variable {prog : Program} {w : World} {A : Around} {E : Value → Shared → Prop} {s : Shared} {u : Tok} {Q : Value → Shared → Prop} {h₀ : Heap} {L l : Addr} {X : List (Addr × Obj)} {a b : Value} {c : Nat}
theorem half_item0 {value slice : Expr} (N : News h₀ L s.heap X) (hm : (l, listOf #[a, b] c) ∈ X) (h : Q a s) (hs : subscripted slice false (.ref l) (.int 0 u) = operate [.ref l, .int 0 u] (getItem (.ref l) (.int 0 u)) := by with_unfolding_all rfl) :
    wpAny (model prog w) A (subscriptTail value slice (.ref l) (.int 0 u)) Q E s := item_listR (News.isList N hm) (by decide) (by decide) rfl h hs
theorem half_item1 {value slice : Expr} (N : News h₀ L s.heap X) (hm : (l, listOf #[a, b] c) ∈ X) (h : Q b s) (hs : subscripted slice false (.ref l) (.int 1 u) = operate [.ref l, .int 1 u] (getItem (.ref l) (.int 1 u)) := by with_unfolding_all rfl) :
    wpAny (model prog w) A (subscriptTail value slice (.ref l) (.int 1 u)) Q E s := item_listR (News.isList N hm) (by decide) (by decide) rfl h hs
end
/-- the deed's prefix: drawn -/
def SpotR (κ : KO) (f : Int) (tr : Tok) (σ : SO) (x : List (Str × Value)) : Prop :=
  ∃ (b : Bool) (p : List Bool) (ts tp tl : Tok), x = [(Str.ofString "spot", .int (en κ.H p) tp), (Str.ofString "length", .int (p.length : Int) tl), (Str.ofString "form", .int f tr)] ∧ p.length ≤ κ.H ∧ σ.so.data = .cell (some (.int (if b then 1 else 0) ts))
end
section
open PySem PySem.W PyProof.Rows
inductive LkRel (B : Nat) (news : List (Addr × Obj)) : List Value → PT × List Bool → Prop
  | mk {tv : Value} {tr : PT} {a : List Bool} {t v : Tok} : TIn B news tv tr → LkRel B news [tv, .int (en B a) t, .int (B : Int) v] (tr, a)
abbrev lkC (B : Nat) : ToldN (PT × List Bool) where
  Rel := LkRel B
  Ok := fun d => d.1.lens B ∧ d.2.length = B ∧ B ≤ 4
  size := fun _ => 20
  Tl := fun _ => True
  Out := fun nw r d => FIn B nw r (look B none d.1 d.2)
structure LkS where
  t : PT
  v : Value
  f : Option (List Bool × Int)
  fv : Value
  tl : List (Addr × Obj)
section
variable {B : Nat} {f : Option (List Bool × Int)} {q a : List Bool} {v : Option Int} {l r : PT} {b : Bool}
theorem look_go (c1 : a.take q.length = q) (c3 : q.length ≠ B) : look B f (.node q v l r) a = look B (match v with | some x => some (q, x) | none => f) (if a.getD q.length false = true then r else l) a := by
  simp only [look]; rw [if_pos c1, if_neg c3]; split <;> rfl
theorem look_stop (c1 : a.take q.length = q) (c3 : q.length = B) : look B f (.node q v l r) a = look B (match v with | some x => some (q, x) | none => f) .nil a := by
  simp only [look]; rw [if_pos c1, if_pos c3]; try (cases v <;> rfl)
end
set_option maxRecDepth 100000 in
set_option maxHeartbeats 8000000 in
theorem lk_tells (B : Nat) (w : World) {pr loose mean mg mb} (d) : TellsN Challenge.rw_sj0175_01.row.prog w (hd.heap_1 w.params) pr loose mean mg mb 84 (lkC B) d := by
  k_fill
  revert d
  k_with_none
  k_with "ite" => ((k_openite; first | (refine iteB_t (by assumption) ?_) | (refine iteB_f (by assumption) ?_) | (refine ite_splitB (fun hc9 => ?_) (fun hc9 => ?_)) | (refine ite_splitO (fun k9 hk9 => ?_) (fun hk9 => ?_))))
  k_with "compareOp IsNot" => ((refine' isNot_ow0 ?h ?_; (case h => assumption)))
  k_with "compareOp IsNot none" => ((refine' isNot_ow0 ?h ?_; (case h => assumption)))
  k_with "subscriptTail" => (((with_reducible show wpAny _ _ (subscriptTail _ _ (Value.ref _) (Value.int (HAdd.hAdd _ (ite _ _ _)) _)) _ _ _); k_dflt (refine' item_bit ?N ?m ?_; (case N => k_asm); (case m => k_mem))))
  k_with "exec While" => ((refine Stop.go ?_))
  refine tellsN_of fun d IH => ?_
  unfold TellsN
  intro dp un gd cn cs a ccd cl outer A₀ base h₀ L m news s vs Q E Bl F X N T hk hR hok hd hu hret
  cases hR
  rename_i tv tr ad t v hT
  obtain ⟨h1, h2, h3⟩ := hok
  dsimp only at h1 h2 h3
  replace hd : dp + 20 < recursionLimit := hd
  replace hu : un + 8 * 20 < cLine := hu
  have Hbt := bt_tells B w (p := pr) (loose := loose) (mean := mean) (mg := mg) (mb := mb)
  have Hfb := fb_tells B w (p := pr) (loose := loose) (mean := mean) (mg := mg) (mb := mb)
  k_with "call ref" => (ktn_call (Str.ofString "bit_of") (btC B); (rename (_ ∧ _) ∨ (_ ∧ _) => ho9); (obtain ⟨_, e9⟩ := bt_ite ho9); subst e9)
  k_with "call ref" => (ktn_call (Str.ofString "first_bits") (fbC B))
  have hh := tin_h hT
  refine wpAny_call ?_
  k_dflt ktr_enter
  k_steps
  refine Stop.on ?_
  rename_i F9 N9
  refine' while_g (σ := LkS) (news := news) (fun c => [(Str.ofString "node", c.v), (Str.ofString "found", c.fv)]) (fun c => c.tl) (fun c => TIn B news c.v c.t ∧ c.t.lens B ∧ FIn B (news ++ c.tl) c.fv c.f ∧ (∀ q ∈ news, ∀ p ∈ c.tl, q.1 < p.1) ∧ look B c.f c.t ad = look B none tr ad) (fun c => c.t.depth) ⟨tr, _, none, .none, []⟩ F9 N9 (fun p hp => by (rw [List.append_nil] at hp); k_mem) (List.forall_mem_cons.mpr ⟨?h0, List.forall_mem_cons.mpr ⟨?h00, List.forall_mem_nil _⟩⟩) ⟨hT, h1, .none, od_nil, rfl⟩ ?turn
  case h0 => exact rfl
  case h00 => exact rfl
  case turn =>
    rintro ⟨t1, v1, f, fv, tl⟩ hx tkk ⟨i1, i2, i3, i4, i5⟩ F8 N8
    clear F9 N9
    dsimp only at i1 i2 i3 i4 i5
    dsimp only [over] at F8
    dsimp only at N8
    have hfv := fin_h i3
    cases i1
    · k_steps
      exact hret _ _ _ _ (by k_asm) (by k_asm) i4 trivial (show FIn B _ _ (look B none _ ad) by rw [← i5]; exact i3)
    · rename_i a1 q1 q w1 l r wv1 lv rv n1 n2 t1 u1 m1 m2 hw1 hl hr
      obtain ⟨g1, g2, g3⟩ := i2
      have hwv := ow_h hw1
      have hin : en B (ad.take q.length) = en B q → ad.take q.length = q := fun h => en_inj (by simp [List.length_take]; omega) (by simp [List.length_take]; omega) h
      k_steps
      · rename _ = some _ => e1
        rename en _ _ = en _ _ => e2
        subst e1
        cases hw1
        exact WgEnd.intro ⟨.nil, .none, some (q, _), _, _ :: tl⟩ (by k_asm) (nw_of (by k_asm) (nw_cons nw_id)) (over2 (by decide)) ⟨.nil, trivial, .some (by k_mem) (by k_mem), od_cons (by ktn_lt) i4, (look_stop (hin e2) (by omega)).symm.trans i5⟩ depth_nil
      · rename _ = some _ => e1
        rename en _ _ = en _ _ => e2
        subst e1
        cases hw1
        exact WgEnd.intro ⟨if _ = true then r else l, _, some (q, _), _, _ :: tl⟩ (by k_asm) (nw_of (by k_asm) (nw_cons nw_id)) (over2 (by decide)) ⟨tin_ite hr hl, lens_ite g2 g3, .some (by k_mem) (by k_mem), od_cons (by ktn_lt) i4, (look_go (hin e2) (by omega)).symm.trans i5⟩ depth_ite
      · rename _ = (none : Option Int) => e1
        rename en _ _ = en _ _ => e2
        subst e1
        exact WgEnd.intro ⟨.nil, .none, _, _, tl⟩ (by k_asm) (by k_asm) over1r ⟨.nil, trivial, i3, i4, (look_stop (hin e2) (by omega)).symm.trans i5⟩ depth_nil
      · rename _ = (none : Option Int) => e1
        rename en _ _ = en _ _ => e2
        subst e1
        exact WgEnd.intro ⟨if _ = true then r else l, _, _, _, tl⟩ (by k_asm) (by k_asm) over1r ⟨tin_ite hr hl, lens_ite g2 g3, i3, i4, (look_go (hin e2) (by omega)).symm.trans i5⟩ depth_ite
      · rename en _ _ ≠ en _ _ => e2
        exact hret _ _ _ _ (by k_asm) (by k_asm) i4 trivial (show FIn B _ _ (look B none _ ad) by rw [← i5, look_out (fun h => e2 (by rw [h]))]; exact i3)
end
section
open PySem PySem.W PyProof.Rows
local macro_rules | `(tactic| ktr_rel) => `(tactic| (show _ ≤ 100; (try dsimp only); omega))
abbrev alC (B : Nat) : ToldN PT where
  Rel := TRel B
  Ok := fun d => d.count ≤ 100
  size := fun d => d.depth + 5
  Tl := fun _ => True
  Out := fun nw r d => LsIn B nw r (rows d)
set_option maxRecDepth 100000 in
set_option maxHeartbeats 8000000 in
theorem al_tells (B : Nat) (w : World) {pr loose mean mg mb} (d) : TellsN Challenge.rw_sj0175_01.row.prog w (hd.heap_1 w.params) pr loose mean mg mb 98 (alC B) d := by
  k_fill
  revert d
  k_with_none
  k_with "binaryOp Add ref ref" => (((with_reducible show wpAny _ _ (binaryOp _ (Value.ref _) (Value.ref _)) _ _ _); k_dflt (refine' add_rows ?F ?N ?a ?b ?z ?_; (case F => k_asm); (case N => k_asm); (case a => k_mem); (case b => k_mem); (case z => ((simp only [List.length_append, List.length_cons, List.length_nil, sizeLine_eq]); omega))); intro D' h' F' N' l1; (try k_lt l1)))
  refine tellsN_of fun d IH => ?_
  unfold TellsN
  intro dp un gd cn cs a ccd cl outer A₀ base h₀ L m news s vs Q E Bl F X N T hk hR hok hd hu hret
  cases hR
  rename_i tv hT
  k_with "tree" => ((show (_ : Nat) < _); simp only [alC, PT.depth])
  k_with "call ref" => (ktn_call (Str.ofString "tree_all") (alC B); (rename LsIn _ _ _ _ => ho9); (obtain ⟨hm9, hr9⟩ := ho9); have hl9 := hr9.length)
  cases hT
  · simp only [PT.depth] at hd hu
    refine wpAny_call ?_
    k_dflt ktr_enter
    k_steps
    ktn_end hret
    exact LsIn.mk (vs := []) (by k_mem) .nil
  · rename_i a1 q1 q v1 l r wv1 lv rv n1 n2 t1 u1 m1 m2 hw1 hl hr
    simp only [PT.depth] at hd hu
    have hk0 : 1 + l.count + r.count ≤ 100 := hok
    have hk1 := rows_len l
    have hk2 := rows_len r
    cases hw1
    · refine wpAny_call ?_
      k_dflt ktr_enter
      k_steps
      ktn_end hret
      show LsIn B _ _ (rows l ++ rows r)
      exact LsIn.mk (by k_mem) (RsIn.append (RsIn.mono (by assumption) (by kqd_sub)) (RsIn.mono (by assumption) (by kqd_sub)))
    · refine wpAny_call ?_
      k_dflt ktr_enter
      k_steps
      ktn_end hret
      show LsIn B _ _ ((q, _) :: (rows l ++ rows r))
      exact LsIn.mk (by k_mem) (RsIn.cons (.some (by k_mem) (by k_mem)) (RsIn.append (RsIn.mono (by assumption) (by kqd_sub)) (RsIn.mono (by assumption) (by kqd_sub))))
end
section
open PySem PySem.W PyProof.Rows
inductive MvRel (H : Nat) (news : List (Addr × Obj)) : List Value → PT × Bool → Prop
  | mk {v : Value} {t : PT} {b : Bool} {x : Int} {tk : Tok} : TIn H news v t → x = bg H b → MvRel H news [v, .int x tk] (t, b)
abbrev mvC (H : Nat) : ToldN (PT × Bool) where
  Rel := MvRel H
  Ok := fun _ => True
  size := fun d => d.1.depth + 5
  Tl := fun _ => True
  Out := fun nw r d => TIn (H + 1) nw r (mv d.2 d.1)
local macro_rules | `(tactic| ktr_rel) => `(tactic| (refine' MvRel.mk ?x1 ?x2; (case x1 => walk_at "my mono"); (case x2 => assumption)))
set_option maxRecDepth 100000 in
set_option maxHeartbeats 8000000 in
theorem mv_tells (B : Nat) (w : World) {pr loose mean mg mb} (d) : TellsN Challenge.rw_sj0175_01.row.prog w (hd.heap_1 w.params) pr loose mean mg mb 175 (mvC B) d := by
  k_fill
  revert d
  k_with_none
  refine tellsN_of fun d IH => ?_
  unfold TellsN
  intro dp un gd cn cs a ccd cl outer A₀ base h₀ L m news s vs Q E Bl F X N T hk hR hok hd hu hret
  cases hR
  rename_i tv t b x tk hT hx
  k_with "tree" => ((show (_ : Nat) < _); simp only [mvC, PT.depth])
  k_with "call ref" => (ktn_call (Str.ofString "_law_moved") (mvC B))
  cases hT
  · simp only [PT.depth] at hd hu
    refine wpAny_call ?_
    k_dflt ktr_enter
    k_steps
    ktn_end hret
    exact TIn.nil
  · rename_i a1 q1 q v1 l r wv1 lv rv n1 n2 t1 u1 m1 m2 hw1 hl hr
    simp only [PT.depth] at hd hu
    refine wpAny_call ?_
    k_dflt ktr_enter
    k_steps
    ktn_end hret
    show TIn (B + 1) _ _ (.node (b :: q) v1 (mv b l) (mv b r))
    exact TIn.node' (by k_mem) (by k_mem) (by rw [hx, en_mv]) (by simp) hw1 (TIn.mono (by assumption) (by kqd_sub)) (TIn.mono (by assumption) (by kqd_sub))
end
section
open PySem PySem.W PyProof.Rows
inductive JnRel (H : Nat) (news : List (Addr × Obj)) : List Value → PT × PT × Option Int → Prop
  | mk {v u wv : Value} {l h : PT} {k : Option Int} {x : Int} {tk : Tok} : TIn H news v l → TIn H news u h → OW wv k → x = bg H true → JnRel H news [v, u, wv, .int x tk] (l, h, k)
abbrev jnC (H : Nat) : ToldN (PT × PT × Option Int) where
  Rel := JnRel H
  Ok := fun _ => True
  size := fun d => max d.1.depth d.2.1.depth + 10
  Tl := fun _ => True
  Out := fun nw r d => TIn (H + 1) nw r (joined d.1 d.2.1 d.2.2)
local macro_rules | `(tactic| ktr_rel) => `(tactic| (refine' MvRel.mk ?x1 ?x2; (case x1 => walk_at "my mono"); (case x2 => first | assumption | exact bg0)))
set_option maxRecDepth 100000 in
set_option maxHeartbeats 8000000 in
theorem jn_tells (B : Nat) (w : World) {pr loose mean mg mb} (d) : TellsN Challenge.rw_sj0175_01.row.prog w (hd.heap_1 w.params) pr loose mean mg mb 182 (jnC B) d := by
  k_fill
  revert d
  k_with_none
  k_with "ite" => ((k_openite; first | (refine iteN_t (by assumption) ?_) | (refine iteN_f (by assumption) ?_) | (refine iteM_t (by assumption) ?_) | (refine iteM_f (by assumption) ?_) | (refine ite_splitO (fun k9 hk9 => ?_) (fun hk9 => ?_)) | (refine ite_splitN (fun hk9 => ?_) (fun hk9 => ?_)) | (refine ite_splitM (fun hk9 => ?_) (fun hk9 => ?_))))
  k_with "compareOp IsNot" => (first | (refine' isNot_ow0 ?h ?_; (case h => assumption)) | (refine' isNot_t0 ?h ?_; (case h => assumption)))
  k_with "compareOp IsNot none" => (first | (refine' isNot_ow0 ?h ?_; (case h => assumption)) | (refine' isNot_t0 ?h ?_; (case h => assumption)))
  k_with "compareOp Is" => ((refine' is_t0 ?h ?_; (case h => assumption)))
  k_with "compareOp Is none" => ((refine' is_t0 ?h ?_; (case h => assumption)))
  refine tellsN_of fun d IH => ?_
  unfold TellsN
  intro dp un gd cn cs a ccd cl outer A₀ base h₀ L m news s vs Q E Bl F X N T hk hR hok hd hu hret
  cases hR
  rename_i lv rv wv l r k x tk hl hr hw hx
  have Hmv := mv_tells B w (pr := pr) (loose := loose) (mean := mean) (mg := mg) (mb := mb)
  k_with "tree" => ((show (_ : Nat) < _); simp only [mvC, PT.depth])
  k_with "call ref" => (ktn_call (Str.ofString "_law_moved") (mvC B); (rename TIn _ _ _ _ => ho9); (have hoh := tin_h ho9); (try dsimp only at ho9))
  obtain ⟨z, hz1, hz2, hd', hu'⟩ : ∃ z : Nat, l.depth + 10 ≤ z ∧ r.depth + 10 ≤ z ∧ dp + z < recursionLimit ∧ un + 8 * z < cLine := ⟨max l.depth r.depth + 10, by omega, by omega, hd, hu⟩
  clear hd hu
  have hwh := ow_h hw
  have hlh := tin_h hl
  have hrh := tin_h hr
  refine wpAny_call ?_
  k_dflt ktr_enter
  k_steps
  all_goals (ktn_end hret)
  all_goals (show TIn (B + 1) _ _ (shrunk (.node [] k (mv false l) (mv true r))))
  all_goals (try dsimp only at *)
  all_goals first
    | (rw [sk_some (by assumption)]; exact TIn.node' (p := []) (by k_mem) (by k_mem) (en_nil _).symm rfl hw (TIn.mono (by assumption) (by kqd_sub)) (TIn.mono (by assumption) (by kqd_sub)))
    | (rw [sk_both (by assumption) (by assumption)]; exact TIn.node' (p := []) (by k_mem) (by k_mem) (en_nil _).symm rfl hw (TIn.mono (by assumption) (by kqd_sub)) (TIn.mono (by assumption) (by kqd_sub)))
    | (rw [sk_left (by assumption) (by assumption) (by assumption)]; exact TIn.mono (by assumption) (by kqd_sub))
    | (rw [sk_right (by assumption) (by assumption)]; exact TIn.mono (by assumption) (by kqd_sub))
    | (rw [sk_right (by assumption) (by assumption), (by assumption : mv true r = .nil), ← (by assumption : mv false l = .nil)]; exact TIn.mono (by assumption) (by kqd_sub))
end
section
open PySem PySem.W PyProof.Rows
local macro_rules | `(tactic| k_all) => `(tactic| assumption)
set_option maxRecDepth 100000 in
set_option maxHeartbeats 8000000 in
theorem draw_tells (w : World) {pr loose mean mg mb} (dp un : Nat) (gd : Option (List Code)) (cn : Str) (cs : Scope) (a : Addr) (ccd : Value) (cl : List (Str × Addr)) (outer : List Env) (A₀ : Around) (base h₀ : Heap) (L : Addr) (m : Str → Option Value) (s : Shared)
    (Q E : Value → Shared → Prop) (bx ls : Addr) (k : Int) (t tm : Tok) (c c' : Nat) (ws : List Value) (ns : List Int) (many : Int) (rest : List (Addr × Obj))
    (Bl : Below A₀ base outer h₀) (F : Fr h₀ L s.heap m) (X : (hd.heap_1 w.params).In h₀) (N : News h₀ L s.heap ((bx, listOf #[.ref ls, .int k t] c) :: rest)) (T : Top pr loose mean mg mb h₀) (hk : cs.kind = .function)
    (hm : (ls, listOf ws.toArray c') ∈ rest) (hap : ∀ p ∈ rest, p.1 ≠ bx) (hI : IntsAre ws ns) (hlen : ns.length ≤ 63) (h0 : 0 ≤ k) (h1 : k ≤ 100) (hm0 : 0 < many) (hm1 : many ≤ 16) (hd : dp + 5 < recursionLimit) (hu : un + 50 < cLine)
    (hret : ∀ r h' tk' t' tr d, 0 ≤ r → r < many → Fr h₀ L h' m → News h₀ L h' ((bx, listOf #[.ref ls, .int (k + 1) t'] d) :: rest) → Q (.int r tr) { s with heap := h', toks := tk' }) :
    wpAny (model Challenge.rw_sj0175_01.row.prog w) (ktrTop dp un gd cn cs L a ccd cl outer) (call (.ref 168) [.ref bx, .int many tm]) Q E s := by
  revert X
  k_fill
  intro X
  k_with_none
  k_with "call builtin:len" => (((with_reducible show wpAny _ _ (call (Value.builtin "len") [Value.ref _]) _ _ _); k_dflt (refine' len_ints ?l ?i ?n ?_; (case l => exact News.isList (by k_asm) (by k_mem)); (case i => assumption); (case n => assumption)); intro t9 tk9))
  k_with "subscriptTail" => (((with_reducible show wpAny _ _ (subscriptTail _ _ (Value.ref _) (Value.int _ _)) _ _ _); k_dflt (refine' item_ints ?l ?i ?a ?b ?c ?_; (case l => exact News.isList (by k_asm) (by k_mem)); (case i => assumption); (case a => assumption); (case b => omega); (case c => omega)); intro x9 t9))
  refine wpAny_call ?_
  k_dflt ktr_enter
  k_steps
  all_goals exact hret _ _ _ _ _ _ (Int.fmod_nonneg_of_pos _ hm0) (Int.fmod_lt_of_pos _ hm0) (by k_asm) (by k_asm)
end
section
open PySem PySem.W PyProof.Rows PySem.Spec
theorem draw_upd (w : World) {pr loose mean mg mb} (dp un : Nat) (gd : Option (List Code)) (cn : Str) (cs : Scope) (a : Addr) (ccd : Value) (cl : List (Str × Addr)) (outer : List Env) (A₀ : Around) (base h₀ : Heap) (L : Addr) (m : Str → Option Value) (s : Shared)
    (Q E : Value → Shared → Prop) (bx ls : Addr) (k : Int) (t tm : Tok) (c c' : Nat) (ws : List Value) (ns : List Int) (many : Int) (X : List (Addr × Obj)) (X' : Tok → Nat → List (Addr × Obj))
    (Bl : Below A₀ base outer h₀) (F : Fr h₀ L s.heap m) (Kx : (hd.heap_1 w.params).In h₀) (N : News h₀ L s.heap X) (T : Top pr loose mean mg mb h₀) (hk : cs.kind = .function)
    (U : ∀ t' d, Upd bx (listOf #[.ref ls, .int k t] c) (listOf #[.ref ls, .int (k + 1) t'] d) X (X' t' d))
    (hm : (ls, listOf ws.toArray c') ∈ X) (hne : ls ≠ bx) (hI : IntsAre ws ns) (hlen : ns.length ≤ 63) (h0 : 0 ≤ k) (h1 : k ≤ 100) (hm0 : 0 < many) (hm1 : many ≤ 16) (hd : dp + 5 < recursionLimit) (hu : un + 50 < cLine)
    (hret : ∀ r h' tk' t' tr d, 0 ≤ r → r < many → Fr h₀ L h' m → News h₀ L h' (X' t' d) → Q (.int r tr) { s with heap := h', toks := tk' }) :
    wpAny (model Challenge.rw_sj0175_01.row.prog w) (ktrTop dp un gd cn cs L a ccd cl outer) (call (.ref 168) [.ref bx, .int many tm]) Q E s := by
  obtain ⟨pre, post, e1, _, a1, a2⟩ := (U t c).split
  have hm' : (ls, listOf ws.toArray c') ∈ pre ++ post := by
    rw [e1] at hm
    rcases List.mem_append.mp hm with h | h
    · exact List.mem_append.mpr (.inl h)
    · rcases List.mem_cons.mp h with h | h
      · exact absurd (congrArg Prod.fst h) hne
      · exact List.mem_append.mpr (.inr h)
  refine draw_tells w dp un gd cn cs a ccd cl outer A₀ base h₀ L m s Q E bx ls k t tm c c' ws ns many (pre ++ post) Bl F Kx (fun p hp => N p ?_) T hk hm' (fun p hp => (List.mem_append.mp hp).elim (a1 p) (a2 p)) hI hlen h0 h1 hm0 hm1 hd hu ?_
  · rw [e1]
    rcases List.mem_cons.mp hp with rfl | h
    · exact List.mem_append.mpr (.inr (.head _))
    · exact (List.mem_append.mp h).elim (fun h => List.mem_append.mpr (.inl h)) fun h => List.mem_append.mpr (.inr (.tail _ h))
  · intro r h' tk' t' tr d hr0 hr1 F' N'
    refine hret r h' tk' t' tr d hr0 hr1 F' fun p hp => N' p ?_
    obtain ⟨pre2, post2, e3, e4, b1, b2⟩ := (U t' d).split
    rw [e4] at hp
    have key : ∀ p, p ∈ X → p.1 ≠ bx → p ∈ pre ++ post := by
      intro p hp hn
      rw [e1] at hp
      rcases List.mem_append.mp hp with h | h
      · exact List.mem_append.mpr (.inl h)
      · rcases List.mem_cons.mp h with h | h
        · exact absurd (congrArg Prod.fst h) hn
        · exact List.mem_append.mpr (.inr h)
    rcases List.mem_append.mp hp with h | h
    · exact List.mem_cons_of_mem _ (key p (by rw [e3]; exact List.mem_append.mpr (.inl h)) (b1 p h))
    · rcases List.mem_cons.mp h with h | h
      · rw [h]; exact .head _
      · exact List.mem_cons_of_mem _ (key p (by rw [e3]; exact List.mem_append.mpr (.inr (.tail _ h))) (b2 p h))
end
section
open PySem PySem.W PyProof.Rows PySem.Spec
inductive RelU {α : Type} (R : Nat → List (Addr × Obj) → List Value → α → Prop) (n : List (Addr × Obj)) : List Value → Nat × α → Prop
  | mk {B : Nat} {v : List Value} {a : α} : R B n v a → RelU R n v (B, a)
theorem RelU.to {α : Type} {R : Nat → List (Addr × Obj) → List Value → α → Prop} {n : List (Addr × Obj)} {v : List Value} {d : Nat × α} (h : RelU R n v d) : R d.1 n v d.2 := by cases h; assumption
abbrev putU : ToldN (Nat × PT × List Bool × Option Int) where
  Rel := RelU PutRel
  Ok := fun d => d.2.1.lens d.1 ∧ d.2.2.1.length ≤ d.1 ∧ d.1 ≤ 4
  size := fun d => d.2.1.depth + 10
  Tl := fun _ => True
  Out := fun nw r d => TIn d.1 nw r (put d.2.1 d.2.2.1 d.2.2.2)
abbrev drU : ToldN (Nat × PT × List Bool) where
  Rel := RelU DrRel
  Ok := fun d => d.2.1.lens d.1 ∧ d.2.2.length ≤ d.1 ∧ d.1 ≤ 4
  size := fun d => d.2.1.depth + 10
  Tl := fun _ => True
  Out := fun nw r d => TIn d.1 nw r (drop d.2.1 d.2.2)
abbrev exU : ToldN (Nat × PT × List Bool) where
  Rel := RelU DrRel
  Ok := fun d => d.2.1.lens d.1 ∧ d.2.2.length ≤ d.1 ∧ d.1 ≤ 4
  size := fun _ => 20
  Tl := fun tl => tl = []
  Out := fun _ r d => OW r (exact d.2.1 d.2.2)
abbrev lkU : ToldN (Nat × PT × List Bool) where
  Rel := RelU LkRel
  Ok := fun d => d.2.1.lens d.1 ∧ d.2.2.length = d.1 ∧ d.1 ≤ 4
  size := fun _ => 20
  Tl := fun _ => True
  Out := fun nw r d => FIn d.1 nw r (look d.1 none d.2.1 d.2.2)
abbrev alU : ToldN (Nat × PT) where
  Rel := RelU TRel
  Ok := fun d => d.2.count ≤ 100
  size := fun d => d.2.depth + 5
  Tl := fun _ => True
  Out := fun nw r d => LsIn d.1 nw r (rows d.2)
abbrev ncU : ToldN (Nat × PT) where
  Rel := RelU TRel
  Ok := fun _ => True
  size := fun d => d.2.depth + 1
  Tl := fun _ => True
  Out := fun _ r d => ∃ tk, r = .int (d.2.count : Int) tk
section
variable (w : World) (pr : Program) (loose : List Str) (mean : ExcName → Option Value) (mg mb : Str → Option Value)
theorem put_u (d) : TellsN Challenge.rw_sj0175_01.row.prog w (hd.heap_1 w.params) pr loose mean mg mb 63 putU d :=
  fun _ _ _ _ _ _ _ _ _ _ _ _ _ _ _ _ _ _ _ Bl F X N T hk hR => put_tells d.1 w d.2 _ _ _ _ _ _ _ _ _ _ _ _ _ _ _ _ _ _ _ Bl F X N T hk hR.to
theorem dr_u (d) : TellsN Challenge.rw_sj0175_01.row.prog w (hd.heap_1 w.params) pr loose mean mg mb 77 drU d :=
  fun _ _ _ _ _ _ _ _ _ _ _ _ _ _ _ _ _ _ _ Bl F X N T hk hR => dr_tells d.1 w d.2 _ _ _ _ _ _ _ _ _ _ _ _ _ _ _ _ _ _ _ Bl F X N T hk hR.to
theorem ex_u (d) : TellsN Challenge.rw_sj0175_01.row.prog w (hd.heap_1 w.params) pr loose mean mg mb 91 exU d :=
  fun _ _ _ _ _ _ _ _ _ _ _ _ _ _ _ _ _ _ _ Bl F X N T hk hR => ex_tells d.1 w d.2 _ _ _ _ _ _ _ _ _ _ _ _ _ _ _ _ _ _ _ Bl F X N T hk hR.to
theorem lk_u (d) : TellsN Challenge.rw_sj0175_01.row.prog w (hd.heap_1 w.params) pr loose mean mg mb 84 lkU d :=
  fun _ _ _ _ _ _ _ _ _ _ _ _ _ _ _ _ _ _ _ Bl F X N T hk hR => lk_tells d.1 w d.2 _ _ _ _ _ _ _ _ _ _ _ _ _ _ _ _ _ _ _ Bl F X N T hk hR.to
theorem nc_u (d) : TellsN Challenge.rw_sj0175_01.row.prog w (hd.heap_1 w.params) pr loose mean mg mb 105 ncU d :=
  fun _ _ _ _ _ _ _ _ _ _ _ _ _ _ _ _ _ _ _ Bl F X N T hk hR => count_tells d.1 w d.2 _ _ _ _ _ _ _ _ _ _ _ _ _ _ _ _ _ _ _ Bl F X N T hk hR.to
theorem al_u (d) : TellsN Challenge.rw_sj0175_01.row.prog w (hd.heap_1 w.params) pr loose mean mg mb 98 alU d :=
  fun _ _ _ _ _ _ _ _ _ _ _ _ _ _ _ _ _ _ _ Bl F X N T hk hR => al_tells d.1 w d.2 _ _ _ _ _ _ _ _ _ _ _ _ _ _ _ _ _ _ _ Bl F X N T hk hR.to
end
section
variable {prog : Program} {w : World} {A : Around} {E : Value → Shared → Prop} {s : Shared} {u : Tok} {Q : Value → Shared → Prop} {h₀ : Heap} {L l : Addr} {X : List (Addr × Obj)} {x y z : Addr} {c : Nat} {b : Bool}
theorem half_itemb {value slice : Expr} (N : News h₀ L s.heap X) (hm : (l, listOf #[.ref x, .ref y] c) ∈ X) (hb : (if b then y else x) = z) (h : Q (.ref z) s) (hs : subscripted slice false (.ref l) (.int (if b then 1 else 0) u) = operate [.ref l, .int (if b then 1 else 0) u] (getItem (.ref l) (.int (if b then 1 else 0) u)) := by with_unfolding_all rfl) :
    wpAny (model prog w) A (subscriptTail value slice (.ref l) (.int (if b then 1 else 0) u)) Q E s := by
  cases b
  · simp only [Bool.false_eq_true, if_false] at hb
    subst hb
    exact half_item0 N hm h (by simpa using hs)
  · simp only [if_true] at hb
    subst hb
    exact half_item1 N hm h (by simpa using hs)
end
theorem en_b {H : Nat} {p : List Bool} {b : Bool} : en H p + (if b then 2 ^ H else 0) = en (H + 1) (b :: p) := by
  simp only [en]; omega
end
section
open PySem PySem.W PyProof.Rows PySem.Spec
/-- the state as the deed on one half sees it: ds, xs: that half; do', xo: the other one -/
structure HO where
  (H : Nat) (ls bx dw xw ds xs do' xo hv y0 y1 : Addr) (ws : List Value) (c' c'' c : Nat) (oz so : Obj) (k : Int) (kt tb : Tok) (kv vo : Value) (e1 e2 e3 : Tok) (gl : List (Addr × Obj))
structure HO.Ok (η : HO) (L : Addr) (b : Bool) : Prop where
  hH : η.H = 2 ∨ η.H = 3
  o2 : @LT.lt Nat _ (L + 2) η.ls
  o3 : @LT.lt Nat _ η.ls η.bx
  o4 : @LT.lt Nat _ η.bx η.dw
  o5 : @LT.lt Nat _ η.dw η.xw
  p1 : @LT.lt Nat _ η.xw η.ds
  p2 : @LT.lt Nat _ η.ds η.xs
  p3 : @LT.lt Nat _ η.xs η.hv
  q1 : @LT.lt Nat _ η.xw η.do'
  q2 : @LT.lt Nat _ η.do' η.xo
  q3 : @LT.lt Nat _ η.xo η.hv
  n1 : η.ds ≠ η.do'
  n2 : η.ds ≠ η.xo
  n3 : η.xs ≠ η.do'
  n4 : η.xs ≠ η.xo
  hb : (if b then η.y1 else η.y0) = η.xs
  hz : ∃ t, η.oz.data = .cell (some (.int (2 ^ η.H) t))
  hs : ∃ t, η.so.data = .cell (some (.int (if b then 1 else 0) t))
  hgl : ∀ p ∈ η.gl, @LT.lt Nat _ η.hv p.1
abbrev hled (w : World) (L : Addr) (η : HO) (vw vs : Value) (a1 a2 a3 b1 b2 b3 : Tok) : List (Addr × Obj) :=
  (η.bx, listOf #[.ref η.ls, .int η.k η.kt] η.c) :: (L + 2, η.so) :: (η.dw, fibD w (η.H + 1) vw a1 a2 a3) :: (η.ds, fibD w η.H vs b1 b2 b3) :: (η.do', fibD w η.H η.vo η.e1 η.e2 η.e3) ::
  (η.ls, listOf η.ws.toArray η.c') :: (L + 1, η.oz) :: (η.xw, instObj 157 η.dw) :: (η.xs, instObj 157 η.ds) :: (η.xo, instObj 157 η.do') :: (η.hv, listOf #[.ref η.y0, .ref η.y1] η.c'') :: η.gl
abbrev hnms (η : HO) : List (Str × Value) :=
  [(Str.ofString "box", .ref η.bx), (Str.ofString "bits", .int ((η.H + 1 : Nat) : Int) η.tb), (Str.ofString "known", η.kv), (Str.ofString "whole", .ref η.xw), (Str.ofString "halves", .ref η.hv)]
/-- what a deed on a half leaves: tw, tS: the two trees -/
def HRet (w : World) (h₀ : Heap) (L : Addr) (η : HO) (tw tS : PT) (s s' : Shared) : Prop :=
  ∃ h' tk' m' X vw vs a1 a2 a3 b1 b2 b3, s' = { s with heap := h', toks := tk' } ∧ Fr h₀ L h' m' ∧ (∀ q ∈ hnms η, m' q.1 = some q.2) ∧ News h₀ L h' X ∧ (∀ p ∈ X, @LT.lt Nat _ η.hv p.1 ∨ ∀ vs n, p.2 ≠ tupO vs n) ∧
    (∀ p ∈ hled w L η vw vs a1 a2 a3 b1 b2 b3, p ∈ X) ∧ TIn (η.H + 1) X vw tw ∧ TIn η.H X vs tS
theorem HRet.of {w : World} {h₀ : Heap} {L : Addr} {η : HO} {tw tS : PT} {s : Shared} {h' : Heap} {tk : Nat} {m' : Str → Option Value} {X : List (Addr × Obj)} {vw vs : Value} {a1 a2 a3 b1 b2 b3 : Tok}
    (F : Fr h₀ L h' m') (N : News h₀ L h' X) (hm : ∀ q ∈ hnms η, m' q.1 = some q.2) (hX : ∀ p ∈ X, @LT.lt Nat _ η.hv p.1 ∨ ∀ vs n, p.2 ≠ tupO vs n) (hs : ∀ p ∈ hled w L η vw vs a1 a2 a3 b1 b2 b3, p ∈ X)
    (h1 : TIn (η.H + 1) X vw tw) (h2 : TIn η.H X vs tS) : HRet w h₀ L η tw tS s { s with heap := h', toks := tk } :=
  ⟨_, _, _, _, _, _, _, _, _, _, _, _, rfl, F, hm, N, hX, hs, h1, h2⟩
end
section
open PySem PySem.W PyProof.Rows PySem.Spec
section
variable {prog : Program} {w : World} {A : Around} {E : Value → Shared → Prop} {s : Shared} {Q : Value → Shared → Prop} {v : Value} {o : Option Int} {B : Nat} {X : List (Addr × Obj)} {t : PT} {f : Option (List Bool × Int)}
theorem isNot_ow (h : OW v o) (q : Q (.bool o.isSome) s) : wpAny (model prog w) A (compareOp .IsNot v .none) Q E s := by
  cases h
  · exact wpAny_isNot_self (by rfl) q
  · exact wpAny_isNot_other (by rfl) (by intro x; cases x) q
theorem is_ow (h : OW v o) (q : Q (.bool o.isNone) s) : wpAny (model prog w) A (compareOp .Is v .none) Q E s := by
  cases h
  · exact wpAny_is_self (by rfl) q
  · exact wpAny_is_other (by rfl) (by intro x; cases x) q
theorem isNot_t (h : TIn B X v t) (q : Q (.bool (!t.isN)) s) : wpAny (model prog w) A (compareOp .IsNot v .none) Q E s := by
  cases h
  · exact wpAny_isNot_self (by rfl) q
  · exact wpAny_isNot_other (by rfl) (by intro x; cases x) q
theorem is_t (h : TIn B X v t) (q : Q (.bool t.isN) s) : wpAny (model prog w) A (compareOp .Is v .none) Q E s := by
  cases h
  · exact wpAny_is_self (by rfl) q
  · exact wpAny_is_other (by rfl) (by intro x; cases x) q
theorem isNot_f (h : FIn B X v f) (q : Q (.bool f.isSome) s) : wpAny (model prog w) A (compareOp .IsNot v .none) Q E s := by
  cases h
  · exact wpAny_isNot_self (by rfl) q
  · exact wpAny_isNot_other (by rfl) (by intro x; cases x) q
end
theorem bne_self_f {b : Bool} : ¬ (b != b) = true := by simp
end
section
open PySem PySem.W PyProof.Rows PySem.Spec
/-- what is left of the walk once the rows were asked: some prefix -/
def HMid (w : World) (h₀ : Heap) (L : Addr) (η : HO) (vw vs : Value) (a1 a2 a3 b1 b2 b3 : Tok) (s s' : Shared) : Prop :=
  ∃ h' tk' m' gl' p ts tl, s' = { s with heap := h', toks := tk' } ∧ Fr h₀ L h' m' ∧ (∀ q ∈ (Str.ofString "spot", .int (en η.H p) ts) :: (Str.ofString "length", .int (p.length : Int) tl) :: hnms η, m' q.1 = some q.2) ∧
    News h₀ L h' (hled w L { η with gl := gl' } vw vs a1 a2 a3 b1 b2 b3) ∧ (∀ p ∈ η.gl, p ∈ gl') ∧ (∀ p ∈ gl', @LT.lt Nat _ η.hv p.1) ∧ p.length ≤ η.H
theorem HMid.of {w : World} {h₀ : Heap} {L : Addr} {η : HO} {vw vs : Value} {a1 a2 a3 b1 b2 b3 : Tok} {s : Shared} {h' : Heap} {tk : Nat} {m' : Str → Option Value} {X : List (Addr × Obj)} (p : List Bool) (ts tl : Tok)
    (F : Fr h₀ L h' m') (N : News h₀ L h' X) (hm : ∀ q ∈ (Str.ofString "spot", .int (en η.H p) ts) :: (Str.ofString "length", .int (p.length : Int) tl) :: hnms η, m' q.1 = some q.2)
    (hs : ∀ p ∈ hled w L { η with gl := [] } vw vs a1 a2 a3 b1 b2 b3, p ∈ X) (hg : ∀ p ∈ η.gl, p ∈ X) (hg' : ∀ p ∈ η.gl, @LT.lt Nat _ η.hv p.1) (hp : p.length ≤ η.H) : HMid w h₀ L η vw vs a1 a2 a3 b1 b2 b3 s { s with heap := h', toks := tk } := by
  refine ⟨_, _, _, X.filter fun p => decide (@LT.lt Nat _ η.hv p.1), p, ts, tl, rfl, F, hm, fun p hp => N p ?_, fun p hp => List.mem_filter.mpr ⟨hg p hp, by simpa using hg' p hp⟩, fun p hp => by simpa using (List.mem_filter.mp hp).2, hp⟩
  have hp' : p ∈ hled w L { η with gl := [] } vw vs a1 a2 a3 b1 b2 b3 ++ X.filter fun p => decide (@LT.lt Nat _ η.hv p.1) := hp
  rcases List.mem_append.mp hp' with h | h
  · exact hs p h
  · exact (List.mem_filter.mp h).1
section
variable {prog : Program} {w : World} {A : Around} {E : Value → Shared → Prop} {s : Shared} {Q : Value → Shared → Prop} {B : Nat} {X : List (Addr × Obj)} {f : List (List Bool × Int)} {h₀ : Heap} {L l : Addr} {vs : List Value} {c : Nat} {u : Tok}
theorem item0_rows {value slice : Expr} (N : News h₀ L s.heap X) (hm : (l, listOf vs.toArray c) ∈ X) (hr : RsIn B X vs f) (hn : f.isEmpty = false)
    (h : ∀ a q p x n m t u y, (a, tupO [.ref q, .int x y] n) ∈ X → (q, tupO [.int (en B p) t, .int (p.length : Int) u] m) ∈ X → (p, x) ∈ f → Q (.ref a) s)
    (hs : subscripted slice false (.ref l) (.int 0 u) = operate [.ref l, .int 0 u] (getItem (.ref l) (.int 0 u)) := by with_unfolding_all rfl) :
    wpAny (model prog w) A (subscriptTail value slice (.ref l) (.int 0 u)) Q E s := by
  cases hr with
  | nil => simp at hn
  | cons h1 h2 =>
    cases h1 with
    | some h3 h4 => exact item_listR (News.isList N hm) (by decide) (by decide) rfl (h _ _ _ _ _ _ _ _ _ h3 h4 (.head _)) hs
end
end
section
open PySem PySem.W PyProof.Rows PySem.Spec
/-- what _law_looked_right is handed -/
inductive LrRel (w : World) (X : List (Addr × Obj)) : List Value → Nat × PT × PT × Option Int → Prop
  | mk {H : Nat} {xw dw hv x0 x1 d0 d1 : Addr} {vw v0 v1 kv : Value} {l h : PT} {k : Option Int} {a1 a2 a3 b1 b2 b3 e1 e2 e3 tb : Tok} {c : Nat} :
    (xw, instObj 157 dw) ∈ X → (dw, fibD w (H + 1) vw a1 a2 a3) ∈ X → TIn (H + 1) X vw (joined l h k) → (hv, listOf #[.ref x0, .ref x1] c) ∈ X → (x0, instObj 157 d0) ∈ X → (d0, fibD w H v0 b1 b2 b3) ∈ X → TIn H X v0 l →
    (x1, instObj 157 d1) ∈ X → (d1, fibD w H v1 e1 e2 e3) ∈ X → TIn H X v1 h → OW kv k → LrRel w X [.ref xw, .ref hv, kv, .int ((H + 1 : Nat) : Int) tb] (H, l, h, k)
abbrev lrC (w : World) : ToldN (Nat × PT × PT × Option Int) where
  Rel := LrRel w
  Ok := fun d => (d.1 = 2 ∨ d.1 = 3) ∧ d.2.1.lens d.1 ∧ d.2.2.1.lens d.1
  size := fun _ => 40
  Tl := fun tl => tl = []
  Out := fun _ r _ => r = .bool true
theorem execs_mid {M : Model} {A : Around} {env : Env} {E : Value → Shared → Prop} {Q : Flow → Shared → Prop} {a b : List Stmt} {s : Shared} (P : Shared → Prop) (h1 : wpAny M A (execs a env) (fun f s' => f = .next ∧ P s') E s) (h2 : ∀ s', P s' → wpAny M A (execs b env) Q E s') :
    wpAny M A (execs (a ++ b) env) Q E s :=
  execs_append (wpAny_mono h1 (fun f s' h => by obtain ⟨rfl, h⟩ := h; exact h2 s' h) fun _ _ h => h)
section
variable {prog : Program} {w : World} {A : Around} {E : Value → Shared → Prop} {s : Shared} {Q : Value → Shared → Prop} {H : Nat} {b : Bool} {p : List Bool} {t u : Tok}
theorem pow2H (hH : H = 2 ∨ H = 3) (h : ∀ tk, Q (.int (2 ^ H) tk) { s with toks := s.toks + 1 }) : wpAny (model prog w) A (binaryOp .Pow (.int 2 t) (.int (((H + 1 : Nat) : Int) - 1) u)) Q E s := by
  refine pow2_small (by omega) (by omega) fun z tk hz _ _ => ?_
  have e : (((H + 1 : Nat) : Int) - 1).toNat = H := by omega
  rw [hz, e]
  exact h tk
theorem split_bit (hH : H = 2 ∨ H = 3) : (en (H + 1) (b :: p)).fdiv (2 ^ H) = (if b then 1 else 0) ∧ (en (H + 1) (b :: p)).fmod (2 ^ H) = en H p := by
  have hb := en_bound H p
  have hp := pow2_pos H
  rw [Int.fdiv_eq_ediv_of_nonneg _ (by omega), Int.fmod_eq_emod_of_nonneg _ (by omega)]
  simp only [en]
  generalize (2 : Int) ^ H = P at *
  cases b
  · simp only [Bool.false_eq_true, if_false, Int.zero_add]
    exact ⟨Int.ediv_eq_zero_of_lt hb.1 hb.2, Int.emod_eq_of_lt hb.1 hb.2⟩
  · simp only [if_true]
    refine ⟨?_, ?_⟩
    · rw [Int.add_ediv_of_dvd_left (Int.dvd_refl _), Int.ediv_self (by omega), Int.ediv_eq_zero_of_lt hb.1 hb.2]; rfl
    · rw [Int.add_emod_left, Int.emod_eq_of_lt hb.1 hb.2]
theorem fdiv_bit (hH : H = 2 ∨ H = 3) (h : ∀ tk, Q (.int (if b then 1 else 0) tk) { s with toks := s.toks + 1 }) : wpAny (model prog w) A (binaryOp .FloorDiv (.int (en (H + 1) (b :: p)) t) (.int (2 ^ H) u)) Q E s := by
  have hp := pow2_pos H
  have hb := en_bound (H + 1) (b :: p)
  have h8 : (2 : Int) ^ (H + 1) ≤ 16 := by rcases hH with rfl | rfl <;> decide
  refine floordiv_int (by omega) ?_ (.inl (PyProof.noPylong_small (by rcases hH with rfl | rfl <;> decide)))
  rw [(split_bit hH).1]
  exact h _
theorem fmod_bit (hH : H = 2 ∨ H = 3) (h : ∀ tk, Q (.int (en H p) tk) { s with toks := s.toks + 1 }) : wpAny (model prog w) A (binaryOp .Mod (.int (en (H + 1) (b :: p)) t) (.int (2 ^ H) u)) Q E s := by
  have hp := pow2_pos H
  refine mod_int (by omega) ?_
  rw [(split_bit hH).2]
  exact h _
end
/-- within a turn of the looking -/
def LrSt (g' : Heap) (L' : Addr) (s : Shared) (X0 : List (Addr × Obj)) (nm : List (Str × Value)) (H : Nat) (f g : Option (List Bool × Int)) (s' : Shared) : Prop :=
  ∃ h' tk m' X' rv dv, s' = { s with heap := h', toks := tk } ∧ Fr g' L' h' m' ∧ News g' L' h' X' ∧ (∀ p ∈ X0, p ∈ X') ∧ (∀ q ∈ (Str.ofString "due", dv) :: (Str.ofString "row", rv) :: nm, m' q.1 = some q.2) ∧ FIn H X' rv f ∧ FIn (H + 1) X' dv g
theorem LrSt.of {g' : Heap} {L' : Addr} {s : Shared} {X0 : List (Addr × Obj)} {nm : List (Str × Value)} {H : Nat} {f g : Option (List Bool × Int)} {h' : Heap} {tk : Nat} {m' : Str → Option Value} {X' : List (Addr × Obj)} {rv dv : Value}
    (F : Fr g' L' h' m') (N : News g' L' h' X') (hs : ∀ p ∈ X0, p ∈ X') (hm : ∀ q ∈ (Str.ofString "due", dv) :: (Str.ofString "row", rv) :: nm, m' q.1 = some q.2) (h1 : FIn H X' rv f) (h2 : FIn (H + 1) X' dv g) :
    LrSt g' L' s X0 nm H f g { s with heap := h', toks := tk } := ⟨_, _, _, _, _, _, rfl, F, N, hs, hm, h1, h2⟩
theorem FIn.handed {B : Nat} {X : List (Addr × Obj)} {v : Value} {f} (h : FIn B X v f) : handedIn v = true := by cases h <;> rfl
theorem bits_of_range {H i : Nat} (h : i < 2 ^ (H + 1)) : ∃ (b : Bool) (p : List Bool), p.length = H ∧ (i : Int) = en (H + 1) (b :: p) := by
  have e := en_draw (H + 1) (H + 1) i (Nat.le_refl _) h
  have l := bitsOf_length (H + 1) i
  cases hb : bitsOf (H + 1) i with
  | nil => rw [hb] at l; simp at l
  | cons b p =>
    rw [hb] at e l
    refine ⟨b, p, by simpa using l, ?_⟩
    rw [e, Nat.sub_self]
    simp
theorem range_at {i n : Nat} {k : Int} (h : (rangeKs 0 n)[i]? = some k) : k = (i : Int) ∧ i < n := by
  simp only [rangeKs, List.getElem?_map, Option.map_eq_some_iff] at h
  obtain ⟨j, h1, rfl⟩ := h
  obtain ⟨h2, h3⟩ := List.getElem?_eq_some_iff.mp h1
  simp at h2 h3
  subst h3
  exact ⟨by omega, h2⟩
theorem half_ex {w : World} {X : List (Addr × Obj)} {H : Nat} {x0 x1 d0 d1 : Addr} {v0 v1 : Value} {l h : PT} {b1 b2 b3 e1 e2 e3 : Tok} (b : Bool)
    (m5 : (x0, instObj 157 d0) ∈ X) (m6 : (d0, fibD w H v0 b1 b2 b3) ∈ X) (m7 : TIn H X v0 l) (m8 : (x1, instObj 157 d1) ∈ X) (m9 : (d1, fibD w H v1 e1 e2 e3) ∈ X) (m10 : TIn H X v1 h) (l0 : l.lens H) (l1 : h.lens H) :
    ∃ xs ds vs t1 t2 t3, (if b then x1 else x0) = xs ∧ (xs, instObj 157 ds) ∈ X ∧ (ds, fibD w H vs t1 t2 t3) ∈ X ∧ TIn H X vs (half b l h) ∧ (half b l h).lens H := by
  cases b
  · exact ⟨x0, d0, v0, b1, b2, b3, rfl, m5, m6, m7, l0⟩
  · exact ⟨x1, d1, v1, e1, e2, e3, rfl, m8, m9, m10, l1⟩
theorem top_in {H : Nat} {X : List (Addr × Obj)} {a q : Addr} {i : Int} {n m : Nat} {t u y : Tok} (h1 : (a, tupO [.ref q, .int i y] n) ∈ X) (h2 : (q, tupO [.int 0 t, .int 0 u] m) ∈ X) : FIn H X (.ref a) (top (some i)) := by
  refine .some h1 (p := []) (t := t) (u := u) (m := m) ?_
  rw [en_nil]
  exact h2
theorem top_some {H : Nat} {X : List (Addr × Obj)} {kv : Value} {k : Option Int} {a q : Addr} {n m : Nat} {t u : Tok} (h : OW kv k) (hs : k.isSome = true) (h1 : (a, tupO [.ref q, kv] n) ∈ X) (h2 : (q, tupO [.int 0 t, .int 0 u] m) ∈ X) : FIn H X (.ref a) (top k) := by
  cases h
  · simp at hs
  · exact top_in h1 h2
theorem top_none {H : Nat} {X : List (Addr × Obj)} {k : Option Int} (hs : k.isSome = false) : FIn H X .none (top k) := by
  cases k
  · exact .none
  · simp at hs
theorem fin_some {H : Nat} {X : List (Addr × Obj)} {a q : Addr} {p : List Bool} {x i j : Int} {n m : Nat} {t u y : Tok} (h1 : (a, tupO [.ref q, .int x y] n) ∈ X) (h2 : (q, tupO [.int i t, .int j u] m) ∈ X) (hi : i = en H p) (hj : j = (p.length : Int)) : FIn H X (.ref a) (some (p, x)) := by
  subst hi hj; exact .some h1 h2
end
local macro_rules | `(tactic| walk_at "my move") => `(tactic| ((try dsimp only); (repeat' (first | exact List.forall_mem_nil _ | refine List.forall_mem_cons.mpr ⟨?_, ?_⟩ | refine List.forall_mem_append.mpr ⟨?_, ?_⟩)) <;> first | exact .inr no_list | exact .inr no_dict | exact .inr no_inst | exact .inr (no_cell (by assumption)) | exact .inl (by k_mem) | exact fun p9 h9 => .inl (by k_mem)))
local macro_rules | `(tactic| walk_at "my over") => `(tactic| ((try dsimp only); (repeat' (first | exact List.forall_mem_nil _ | refine List.forall_mem_cons.mpr ⟨?_, ?_⟩ | refine List.forall_mem_append.mpr ⟨?_, ?_⟩)) <;> first | exact .inr no_list | exact .inr no_dict | exact .inr no_inst | exact .inr (no_cell (by assumption)) | exact ab_gl (by assumption) | exact ab_tl (by assumption) (by k_mem) | (refine .inl ?_; show @LT.lt Nat _ _ _; omega)))
local macro_rules | `(tactic| k_all) => `(tactic| first | exact ne_tl (by assumption) (by first | exact Nat.le_of_lt (by walk_at "my lt") | omega) | ((refine List.forall_mem_append.mpr ⟨?ka1, ?ka2⟩); (case ka1 => k_all); (case ka2 => k_all)) | exact ne_tl9 (by assumption) (by k_mem))
local macro_rules | `(tactic| ktr_rel) => `(tactic| (show _ ∧ _ ∧ _; refine ⟨?_, ?_, ?_⟩ <;> first | assumption | omega | exact Nat.zero_le _))
local macro_rules | `(tactic| ktr_rel) => `(tactic| (show _ ∧ _ ∧ _; refine ⟨?_, ?_, ?_⟩ <;> ((try dsimp only); (try simp only [List.length_cons]); first | assumption | omega)))
local macro_rules | `(tactic| ktr_rel) => `(tactic| (refine' RelU.mk (PutRel.mk' ?x1 ?x2 ?x3 ?x4 ?x5); (case x2 => k_mem); (case x3 => first | exact rfl | exact en_b); (case x4 => first | exact rfl | exact len_s); (case x1 => walk_at "my mono"); (case x5 => first | assumption | exact OW.some _ _)))
local macro_rules | `(tactic| ktr_rel) => `(tactic| (refine' RelU.mk (DrRel.mk' ?x1 ?x2 ?x3 ?x4); (case x2 => k_mem); (case x3 => first | exact rfl | exact en_b); (case x4 => first | exact rfl | exact len_s); (case x1 => walk_at "my mono")))
local macro_rules | `(tactic| ktr_rel) => `(tactic| (refine' RelU.mk (TRel.mk ?x1); (case x1 => walk_at "my mono")))
local macro_rules | `(tactic| k_ne) => `(tactic| first | assumption | exact Ne.symm (by assumption))
local macro_rules | `(tactic| walk_at "my b3") => `(tactic| first | (refine' isNot_ow ?h ?_; (case h => assumption)) | (refine' isNot_f ?h ?_; (case h => assumption)))
local macro_rules | `(tactic| walk_at "my b4") => `(tactic| ((with_reducible show wpAny _ _ (subscriptTail _ _ (Value.ref _) (Value.int (ite _ _ _) _)) _ _ _); k_dflt (refine' half_itemb ?N ?m ?h ?_; (case N => k_asm); (case m => k_mem); (case h => assumption))))
section
open PySem PySem.W PyProof.Rows
local macro_rules | `(tactic| walk_at "compareOp IsNot") => `(tactic| walk_at "my b3")
local macro_rules | `(tactic| walk_at "compareOp IsNot none") => `(tactic| walk_at "my b3")
local macro_rules | `(tactic| walk_at "exec For Name Call cons nil") => `(tactic| (refine Stop.go ?_))
local macro_rules | `(tactic| walk_at "pyIter ref") => `(tactic| (refine Stop.go ?_))
local macro_rules | `(tactic| ktr_rel) => `(tactic| (refine' RelU.mk (LkRel.mk ?x1); (case x1 => walk_at "my mono")))
local macro_rules | `(tactic| walk_at "binaryOp Pow int int") => `(tactic| (refine pow2H (by assumption) ?_; intro tk9))
local macro_rules | `(tactic| walk_at "binaryOp FloorDiv int int") => `(tactic| (refine fdiv_bit (by assumption) ?_; intro tk9))
local macro_rules | `(tactic| walk_at "binaryOp Mod int int") => `(tactic| (refine fmod_bit (by assumption) ?_; intro tk9))
local macro_rules | `(tactic| walk_at "binaryOp Mult int int") => `(tactic| (refine mul_bit ?_; intro tk9))
local macro_rules | `(tactic| walk_at "subscriptTail") => `(tactic| walk_at "my b4")
local macro_rules | `(tactic| walk_at "compareOp NotEq") => `(tactic| (refine' ne_found (B := _) ?N ?a ?b ?d ?_; (case N => k_asm); (case a => exact FIn.mono (by assumption) (by kqd_sub)); (case b => exact FIn.mono (by assumption) (by kqd_sub)); (case d => ktr_units)))
set_option maxRecDepth 100000 in
set_option maxHeartbeats 8000000 in
theorem lr_tells (w : World) {pr loose mean mg mb} (d) : TellsN Challenge.rw_sj0175_01.row.prog w (hd.heap_1 w.params) pr loose mean mg mb 189 (lrC w) d := by
  k_fill
  revert d
  k_with_none
  refine tellsN_of fun d IH => ?_
  unfold TellsN
  intro dp un gd cn cs a ccd cl outer A₀ base h₀ L m news s vs Q E Bl F X N T hk hR hok hd hu hret
  cases hR
  rename_i H xw dw hv x0 x1 d0 d1 vw v0 v1 kv l h k a1 a2 a3 b1 b2 b3 e1 e2 e3 tb c m1 m2 m3 m4 m5 m6 m7 m8 m9 m10 m11
  obtain ⟨hH, l0, l1⟩ := hok
  dsimp only at hH l0 l1
  replace hd : dp + 40 < recursionLimit := hd
  replace hu : un + 8 * 40 < cLine := hu
  have hkv := m11.handed
  have hvw := m3.handed
  have Hlk := lk_u w pr loose mean mg mb
  k_with "call ref" => ((with_reducible show wpAny _ _ (call (Value.ref 140) _) _ _ _); (refine wpAny_call ?_); k_dflt (refine' code_def ?k1 ?k2 ?k3 ?k4 ?k5 ?kA ?kF ?kK ?k6 ?k7 ?k8 ?k9 ?kB ?_ ?c2 ?c3 ?c4 ?c5; (case kA => exact rfl); (case kF => exact rfl); (case kK => exact rfl); (case k1 => k_asm); (case k2 => k_asm); (case k3 => k_asm); (case k4 => k_asm); (case k5 => k_asm); (case k6 => k_is); (case k7 => k_is); (case k8 => ktr_room); (case k9 => exact BindsTo.of_eq rfl); (case c5 => decide); (case kB => exact locs rfl); (case c2 => exact rfl); (case c3 => exact rfl); (case c4 => exact rfl); k_whole; intro g' L' h' FG' F' N' B' X' T'; (try dsimp only); (try k_fold)))
  k_with "tree" => ((show (_ : Nat) < _); simp only [lkU])
  k_with "call ref" => (ktn_call (Str.ofString "tree_look") lkU; (rename FIn _ _ _ _ => ho9); (have hoh := ho9.handed))
  refine wpAny_call ?_
  k_dflt ktr_enter
  rename_i g9 L9 h9 FG9 F9 N9 B9 X9 T9
  k_steps
  refine Stop.on ?_
  rename Fr _ _ _ _ => F9
  (with_unfolding_all refine' For_invVF F9 ?k1 ?k2 ?_; (case k1 => exact rfl); (case k2 => exact rfl); k_whole)
  k_steps
  refine Stop.on ?_
  rename Fr _ _ _ _ => F9
  rename News _ _ _ _ => N9
  rename IsRange _ _ _ _ _ _ _ _ => R9
  obtain ⟨nn, hpw, hpw2, hpw3⟩ : ∃ nn : Nat, (2 : Int) * 2 ^ H = (nn : Int) ∧ nn ≤ 16 ∧ nn = 2 ^ (H + 1) := ⟨2 ^ (H + 1), by rcases hH with rfl | rfl <;> rfl, by rcases hH with rfl | rfl <;> decide, rfl⟩
  (with_unfolding_all refine' kpr_invN (n := nn) (fun _ m₁ nx => nx = news ∧ ∃ ts, ∀ q ∈ [(Str.ofString "size", .int (2 ^ H) ts), (Str.ofString "whole", .ref xw), (Str.ofString "halves", .ref hv), (Str.ofString "worth", kv), (Str.ofString "bits", .int ((H + 1 : Nat) : Int) tb)], m₁ q.1 = some q.2) rfl R9 ?sm ?sz F9 N9 ⟨rfl, _, ?nm⟩ ?turn ?done)
  case sm => (rw [hpw]; exact small_one (by omega) (by omega) (by omega) (by omega))
  case sz => (rw [hpw, rangeSize_nat]; simp)
  case nm => repeat' (first | exact List.forall_mem_nil _ | refine List.forall_mem_cons.mpr ⟨?_, ?_⟩ | rfl)
  case done =>
    rintro m81 nx hh tkk ⟨rfl, ts, hm⟩ F8 N8
    clear F9 N9
    rw [← over_self hm] at F8
    dsimp only [over] at F8
    k_steps
    exact hret _ [] _ _ (by k_asm) (ktn_tl0 (by k_asm)) ktn_ord0 rfl rfl
  case turn =>
    rintro i k' t8 m81 nx hh tkk own hk' hoff ⟨hnx, ts, hm⟩ F8 N8
    rw [hnx] at N8
    clear F9 N9 hnx
    obtain ⟨rfl, hi⟩ := range_at hk'
    obtain ⟨bb, ad, had, hki⟩ := bits_of_range (hpw3 ▸ hi)
    rw [hki] at F8
    obtain ⟨xs, ds, vs, t1, t2, t3, hb, hx1, hx2, hx3, hx4⟩ := half_ex bb m5 m6 m7 m8 m9 m10 l0 l1
    have hvs := hx3.handed
    have hlj := joined_lens (k := k) l0 l1
    rw [← over_self hm] at F8
    dsimp only [over] at F8
    show wpAny _ _ (execs ([_, _] ++ ([_] ++ [_])) _) _ _ _
    refine execs_mid (LrSt g9 L9 s (news ++ own) [(Str.ofString "address", .int (en (H + 1) (bb :: ad)) t8), (Str.ofString "size", .int (2 ^ H) ts), (Str.ofString "whole", .ref xw), (Str.ofString "halves", .ref hv), (Str.ofString "worth", kv), (Str.ofString "bits", .int ((H + 1 : Nat) : Int) tb)] H (look H none (half bb l h) ad) (top k)) ?_ ?_
    · k_steps
      · refine' LrSt.of ?F ?N ?S ?M ?h1 ?h2
        case F => k_asm
        case N => k_asm
        case S => kqd_sub
        case M => repeat' (first | exact List.forall_mem_nil _ | refine List.forall_mem_cons.mpr ⟨?_, ?_⟩ | rfl)
        case h1 => exact FIn.mono (by assumption) (by kqd_sub)
        case h2 => exact top_some m11 (by assumption) (by k_mem) (by k_mem)
      · refine' LrSt.of ?F ?N ?S ?M ?h1 ?h2
        case F => k_asm
        case N => k_asm
        case S => kqd_sub
        case M => repeat' (first | exact List.forall_mem_nil _ | refine List.forall_mem_cons.mpr ⟨?_, ?_⟩ | rfl)
        case h1 => exact FIn.mono (by assumption) (by kqd_sub)
        case h2 => exact top_none (by assumption)
    · rintro s2 ⟨hh2, tk2, m82, X2, rv, dv, rfl, F2, N2, hX2, hm2, hr2, hd2⟩
      generalize hf : look H none (half bb l h) ad = f at hr2
      have hrv := hr2.handed
      have hdv := hd2.handed
      rw [← over_self hm2] at F2
      dsimp only [over] at F2
      clear F8 N8
      refine execs_mid (LrSt g9 L9 s X2 [(Str.ofString "address", .int (en (H + 1) (bb :: ad)) t8), (Str.ofString "size", .int (2 ^ H) ts), (Str.ofString "whole", .ref xw), (Str.ofString "halves", .ref hv), (Str.ofString "worth", kv), (Str.ofString "bits", .int ((H + 1 : Nat) : Int) tb)] H f (orElse bb (top k) f)) ?_ ?_
      · cases hr2
        · k_steps
          refine' LrSt.of ?F ?N ?S ?M ?h1 ?h2
          case F => k_asm
          case N => k_asm
          case S => kqd_sub
          case M => repeat' (first | exact List.forall_mem_nil _ | refine List.forall_mem_cons.mpr ⟨?_, ?_⟩ | rfl)
          case h1 => exact .none
          case h2 => exact FIn.mono hd2 (by kqd_sub)
        · k_steps
          refine' LrSt.of ?F ?N ?S ?M ?h1 ?h2
          case F => k_asm
          case N => k_asm
          case S => kqd_sub
          case M => repeat' (first | exact List.forall_mem_nil _ | refine List.forall_mem_cons.mpr ⟨?_, ?_⟩ | rfl)
          case h1 => exact .some (by k_mem) (by k_mem)
          case h2 => exact fin_some (by k_mem) (by k_mem) en_b len_s
      · rintro s3 ⟨hh3, tk3, m83, X3, rv3, dv3, rfl, F3, N3, hX3, hm3, hr3, hd3⟩
        have hlk : look (H + 1) none (joined l h k) (bb :: ad) = orElse bb (top k) f := by rw [← hf]; exact look_side bb H l h k ad
        rw [← hlk] at hd3
        have hrv3 := hr3.handed
        have hdv3 := hd3.handed
        rw [← over_self hm3] at F3
        dsimp only [over] at F3
        clear F2 N2
        have up : ∀ p ∈ news, p ∈ X3 := fun p hp => hX3 _ (hX2 _ (List.mem_append.mpr (.inl hp)))
        have uo : ∀ p ∈ own, p ∈ X3 := fun p hp => hX3 _ (hX2 _ (List.mem_append.mpr (.inr hp)))
        have n1 := up _ m1
        have n2 := up _ m2
        have n3 := m3.mono up
        k_steps
        refine' InvEndN.intro (nx := news) ?F ?N ⟨rfl, ts, ?nm⟩ rfl ?hn ?ho
        case F => k_asm
        case N => k_asm
        case nm => repeat' (first | exact List.forall_mem_nil _ | refine List.forall_mem_cons.mpr ⟨?_, ?_⟩ | rfl)
        case hn => exact fun p hp => (by have := up p hp; k_mem)
        case ho => exact fun p hp => (by have := uo p hp; k_mem)
end
section
open PySem PySem.W PyProof.Rows
def LHR (σ : SO) (x : List (Str × Value)) : Prop := x = [(Str.ofString "low", σ.v0), (Str.ofString "high", σ.v1)]
local macro_rules | `(tactic| ktr_rel) => `(tactic| (refine' JnRel.mk ?x1 ?x2 ?x3 ?x4; (case x4 => exact rfl); (case x1 => walk_at "my mono"); (case x2 => walk_at "my mono"); (case x3 => assumption)))
local macro_rules | `(tactic| ktr_rel) => `(tactic| (refine' LrRel.mk ?x1 ?x2 ?x3 ?x4 ?x5 ?x6 ?x7 ?x8 ?x9 ?x10 ?x11; (case x1 => k_mem); (case x2 => k_mem); (case x4 => k_mem); (case x5 => k_mem); (case x6 => k_mem); (case x8 => k_mem); (case x9 => k_mem); (case x11 => assumption); (case x7 => walk_at "my mono"); (case x10 => walk_at "my mono"); (case x3 => walk_at "my mono")))
set_option maxRecDepth 100000 in
set_option maxHeartbeats 8000000 in
theorem check_tree (w : World) {pr loose mean mg mb} (fa L : Addr) (cd : Value) (base h₀ : Heap) (Bl : Below callerA base [] h₀) (X : (hd.heap_1 w.params).In h₀) (T : Top pr loose mean mg mb h₀)
    (κ : KO) (hκ : κ.Ok L) (n K : Nat) (hn : n ≤ 8) (hK : K ≤ 40) (σ : SO) (hσ : σ.Ok κ n K) (m : Str → Option Value) (s : Shared) (E : Value → Shared → Prop)
    (F : Fr h₀ L s.heap m) (hm : ∀ q ∈ nms κ σ, m q.1 = some q.2) (N : News h₀ L s.heap (led w L κ σ)) :
    wpAny (model Challenge.rw_sj0175_01.row.prog w) (callerA.deeper (envOfC (Str.ofString "law") lawScope L fa cd)) (execs [turnBody[2]?.getD (.Pass ⟨0, 0, 0, 0⟩), turnBody[3]?.getD (.Pass ⟨0, 0, 0, 0⟩)] (envOfC (Str.ofString "law") lawScope L fa cd))
      (fun f s' => f = .next ∧ TurnSt w κ σ.gl h₀ L n K LHR s s') E s := by
  revert X
  k_fill
  intro X
  k_with_none
  k_with "compareOp NotEq" => ((refine' ne_tree ?N ?a ?b ?c ?d ?_; (case N => k_asm); (case a => walk_at "my mono"); (case b => walk_at "my mono"); (case c => omega); (case d => k_units)))
  k_with "subscriptTail" => (((with_reducible show wpAny _ _ (subscriptTail _ _ (Value.ref _) (Value.int 0 _)) _ _ _); k_dflt (refine' half_item0 ?N ?m ?_; (case N => k_asm); (case m => k_mem))))
  k_with "subscriptTail" => (((with_reducible show wpAny _ _ (subscriptTail _ _ (Value.ref _) (Value.int 1 _)) _ _ _); k_dflt (refine' half_item1 ?N ?m ?_; (case N => k_asm); (case m => k_mem))))
  rw [← over_self (l := nms κ σ) (hm)] at F
  obtain ⟨H, ls, bx, dw, xw, d0, x0, d1, x1, hv, ws, ns, c', c'', oz, tz⟩ := κ
  obtain ⟨hH, o2, o3, o4, o5, o6, o7, o8, o9, o10, hI, hlen, hz⟩ := hκ
  obtain ⟨k, kt, tb, c, so, known, kv, vw, v0, v1, tl, th, gl, a1, a2, a3, b1, b2, b3, e1, e2, e3⟩ := σ
  obtain ⟨⟨hk0, hk1, hkv, hl0, hl1, hc0, hc1, h0, h1, hw, sv, hso⟩, hgl⟩ := hσ
  dsimp only [over, nms, led] at *
  show wpAny _ _ (execs [.Assign _ _ _, .If _ _ _ _] _) _ _ _
  have hdw := hw.handed
  have hd0 := h0.handed
  have hd1 := h1.handed
  have hdk := hkv.handed
  have dl0 := tl.depth_le
  have dl1 := th.depth_le
  have jl := joined_lens (k := known) hl0 hl1
  have jd2 := joined_depth (k := known) hl0 hl1 (by omega : tl.count ≤ 16) (by omega : th.count ≤ 16)
  have Hjn := jn_tells H w (pr := pr) (loose := loose) (mean := mean) (mg := mg) (mb := mb)
  have Hlr := lr_tells w (pr := pr) (loose := loose) (mean := mean) (mg := mg) (mb := mb)
  k_with "tree" => ((show (_ : Nat) < _); simp only [jnC, lrC])
  k_with "call ref" => (ktn_call (Str.ofString "_law_joined") (jnC H); (rename TIn _ _ _ _ => ho9); (have hoh := ho9.handed))
  k_with "call ref" => (ktn_call (Str.ofString "_law_looked_right") (lrC w); (rename _ = Value.bool true => hoh); subst hoh)
  k_steps
  refine' TurnSt.fin ⟨_, _, tb, _, _, known, _, _, _, _, tl, th, gl, _, _, _, _, _, _, _, _, _⟩ [(Str.ofString "low", v0), (Str.ofString "high", v1)] ?F ?N ?A ?S ?M ?O ?R ?G hgl
  case F => k_asm
  case N => k_asm
  case S =>
    dsimp only [led]
    kqd_sub
  case A => walk_at "my over"
  case M =>
    dsimp only [nms, List.cons_append, List.nil_append]
    repeat' (first | exact List.forall_mem_nil _ | refine List.forall_mem_cons.mpr ⟨?_, ?_⟩ | rfl)
  case G => kqd_sub
  case R => (intro g9; exact rfl)
  case O =>
    dsimp only
    refine ⟨?p1, ?p2, ?p3, hl0, hl1, ?p4, ?p5, ?p6, ?p7, ?p8, ⟨_, hso⟩⟩
    case p1 => dsimp only; omega
    case p2 => dsimp only; omega
    case p3 => assumption
    case p4 => dsimp only; omega
    case p5 => dsimp only; omega
    case p6 => exact TIn.mono h0 (by kqd_sub)
    case p7 => exact TIn.mono h1 (by kqd_sub)
    case p8 => exact TIn.mono hw (by kqd_sub)
end
section
open PySem PySem.W PyProof.Rows PySem.Spec PySem.Calls
open PyProof.Rows.LCg
/-- a row's element, made -/
def EltEnd (h₀ : Heap) (L : Addr) (m : Str → Option Value) (s : Shared) (I C D : Addr) (oI oC oD : Obj) (Y : List (Addr × Obj)) (B : Nat) (r : List Bool × Int) (y : Value) (s' : Shared) : Prop :=
  ∃ h' tk new, s' = { s with heap := h', toks := tk } ∧ Fr h₀ L h' m ∧ News h₀ L h' ((I, oI) :: (C, oC) :: (D, oD) :: (new ++ Y)) ∧ (∀ p ∈ new, p.1 ≠ I ∧ p.1 ≠ C ∧ p.1 ≠ D) ∧ (∀ p ∈ new, ∀ q ∈ Y, q.1 < p.1) ∧ FIn B (new ++ Y) y (some r)
def EltOk (prog : Program) (w : World) (A : Around) (h₀ : Heap) (L : Addr) (m : Str → Option Value) (s : Shared) (env : Env) (elt : Expr) (x₁ x₂ x₃ : Str) (scope : Scope) (cl : List (Str × Addr)) (X : List (Addr × Obj)) (H : Nat) (b : Bool) (xs : List (List Bool × Int)) : Prop :=
  ∀ (I C D : Addr) (oI oC oD : Obj) (m₂ : Str → Option Value) (h : Heap) (tk : Nat) (Y : List (Addr × Obj)) (p : List Bool) (x : Int) (t₁ t₂ t₃ : Tok) (E' : Value → Shared → Prop), (p, x) ∈ xs → NsObj oC m₂ → m₂ x₁ = some (.int (en H p) t₁) → m₂ x₂ = some (.int (p.length : Int) t₂) → m₂ x₃ = some (.int x t₃) →
    Fr h₀ L h m → News h₀ L h ((I, oI) :: (C, oC) :: (D, oD) :: Y) → (∀ p ∈ X, p ∈ Y) → (∀ p ∈ Y, p.1 ≠ I ∧ p.1 ≠ C ∧ p.1 ≠ D) → (@Ne Nat I C ∧ @Ne Nat I D ∧ @Ne Nat C D) →
    wpAny (model prog w) A (eval elt (compEnvC scope cl C env)) (EltEnd h₀ L m { s with heap := h, toks := tk } I C D oI oC oD Y (H + 1) (mvr b (p, x))) E' { s with heap := h, toks := tk }
def RowSrc (prog : Program) (w : World) (A : Around) (h₀ : Heap) (L : Addr) (m : Str → Option Value) (env : Env) (elt : Expr) (x₁ x₂ x₃ : Str) (scope : Scope) (cl : List (Str × Addr)) (Q : Value → Shared → Prop) (xv : Value) (s : Shared) : Prop :=
  ∃ a n vs xs X H b, xv = .ref a ∧ A.handled = none ∧ Fr h₀ L s.heap m ∧ News h₀ L s.heap X ∧ (a, listOf vs.toArray n) ∈ X ∧ RsIn H X vs xs ∧ xs.length ≤ 200 ∧ EltOk prog w A h₀ L m s env elt x₁ x₂ x₃ scope cl X H b xs ∧
    ∀ D ys h tk tl, Fr h₀ L h m → News h₀ L h ((D, lst ys) :: (tl ++ X)) → (∀ q ∈ X, q.1 < D) → (∀ p ∈ tl, ∀ q ∈ X, q.1 < p.1) → (∀ p ∈ tl, p.1 ≠ D) → RsIn (H + 1) (tl ++ X) ys (xs.map (mvr b)) → Q (.ref D) { s with heap := h, toks := tk }
theorem RsIn.at {B : Nat} {X : List (Addr × Obj)} : ∀ {vs : List Value} {xs : List (List Bool × Int)}, RsIn B X vs xs → ∀ {i : Nat} {v : Value}, vs[i]? = some v → ∃ r, xs[i]? = some r ∧ FIn B X v (some r)
  | _, _, .nil, i, v, h => by simp at h
  | _, _, .cons h1 h2, 0, v, h => by
    simp at h
    subst h
    exact ⟨_, rfl, h1⟩
  | _, _, .cons h1 h2, i + 1, v, h => by
    obtain ⟨r, e, f⟩ := RsIn.at h2 (by simpa using h)
    exact ⟨r, by simpa using e, f⟩
theorem EltEnd.of2 {h₀ : Heap} {L : Addr} {m : Str → Option Value} {s : Shared} {I C D D1 D2 : Addr} {o1 o2 oI oC oD : Obj} {Y : List (Addr × Obj)} {B : Nat} {r : List Bool × Int} {y : Value} {h' : Heap} {tk : Nat}
    (F : Fr h₀ L h' m) (N : News h₀ L h' ((D2, o2) :: (D1, o1) :: (I, oI) :: (C, oC) :: (D, oD) :: Y)) (l1 : @LT.lt Nat _ I D1 ∧ @LT.lt Nat _ C D1 ∧ @LT.lt Nat _ D D1 ∧ AllLt D1 Y) (l2 : @LT.lt Nat _ D1 D2 ∧ @LT.lt Nat _ I D2 ∧ @LT.lt Nat _ C D2 ∧ @LT.lt Nat _ D D2 ∧ AllLt D2 Y)
    (h : FIn B ((D2, o2) :: (D1, o1) :: Y) y (some r)) : EltEnd h₀ L m s I C D oI oC oD Y B r y { s with heap := h', toks := tk } := by
  refine ⟨h', tk, [(D2, o2), (D1, o1)], rfl, F, fun p hp => N p ?_, ?_, ?_, h⟩
  · simp only [List.cons_append, List.nil_append, List.mem_cons] at hp ⊢
    rcases hp with h | h | h | h | h | h <;> simp [h]
  · exact List.forall_mem_cons.mpr ⟨⟨(Nat.ne_of_lt l2.2.1).symm, (Nat.ne_of_lt l2.2.2.1).symm, (Nat.ne_of_lt l2.2.2.2.1).symm⟩, List.forall_mem_cons.mpr ⟨⟨(Nat.ne_of_lt l1.1).symm, (Nat.ne_of_lt l1.2.1).symm, (Nat.ne_of_lt l1.2.2.1).symm⟩, List.forall_mem_nil _⟩⟩
  · exact List.forall_mem_cons.mpr ⟨ktn_ltOf l2.2.2.2.2, List.forall_mem_cons.mpr ⟨ktn_ltOf l1.2.2.2, List.forall_mem_nil _⟩⟩
section
variable {prog : Program} {w : World} {A : Around} {E : Value → Shared → Prop} {s : Shared} {h₀ : Heap} {L : Addr} {m : Str → Option Value} {env : Env}
theorem comp3 {elt iter : Expr} {x₁ x₂ x₃ : Str} {p₁ p₂ p₃ q₁ q₂ : Pos} {k₁ k₂} {scope : Scope} {cl : List (Str × Addr)} {pos : Pos} {Q : Value → Shared → Prop} (_F : Fr h₀ L s.heap m)
    (hclos : closureFor scope env = pure cl) (hcell : ∀ y ∈ scope.names, y.2 ≠ .cell) (hkind : scope.kind = .function)
    (hnames : ∀ y ∈ scope.names, y.2 = .local → scope.names.lookup y.1 = some .local) (hx₁ : scope.names.lookup x₁ = some .local) (hx₂ : scope.names.lookup x₂ = some .local) (hx₃ : scope.names.lookup x₃ = some .local)
    (n12 : x₁ ≠ x₂) (n13 : x₁ ≠ x₃) (n23 : x₂ ≠ x₃)
    (h : wpAny (model prog w) A (eval iter env) (RowSrc prog w A h₀ L m env elt x₁ x₂ x₃ scope cl Q) E s)
    (hs : ∀ x, foldedSetIterable iter env x = pure x := by intro _; rfl) :
    wpAny (model prog w) A (eval (.ListComp elt [⟨.Tuple [.Tuple [.Name x₁ p₁, .Name x₂ p₂] k₁ q₁, .Name x₃ p₃] k₂ q₂, iter, [], 0⟩] scope pos) env) Q E s := by
  rw [eval_ListComp]
  refine wpAny_comprehension_free (use := none) rfl hs hclos hkind hnames (wpAny_mono h (fun xv s₁ h₁ => ?_) fun _ _ e => e)
  obtain ⟨a, n, vs, xs, X, H, b, rfl, hh, F, N, hm, hr, hlen, hE, fin⟩ := h₁
  have hl : s₁.heap.IsList a vs.toArray := N.isList hm
  have hlv := hr.length
  have hlt : a < s₁.heap.objs.size := by obtain ⟨_, e, _⟩ := hl; exact Heap.lt_size e
  refine wpAny_pyIter_list hl ?_
  have W := Walks.list (prog := prog) (w := w) hh s₁.heap.objs.size a (Nat.ne_of_lt hlt) vs.toArray
  refine wpAny_newObj_type (wpAny_newFunctionEnv hcell (by intro y hy; simp at hy) (fun h₁ hns₁ hsb₁ => ?_) hkind)
  dsimp only at hns₁ hsb₁ ⊢
  -- the three objects of the comprehension: I, I + 1, I + 2
  obtain ⟨I, hI⟩ : ∃ I, I = s₁.heap.objs.size := ⟨_, rfl⟩
  rw [← hI] at W hlt
  generalize hh2 : s₁.heap.push { cls := .type "list_iterator", data := .fields #[.ref a, .int 0 0] } = H2 at hns₁ hsb₁ ⊢
  have s2 : H2.objs.size = I + 1 := by rw [← hh2, Heap.size_push, ← hI]
  generalize hh3 : H2.push { cls := .type "list", dict := none, data := .seq ([] : List Value).toArray } = H3 at hns₁ hsb₁ ⊢
  have s3 : H3.objs.size = I + 2 := by rw [← hh3, Heap.size_push, s2]
  rw [s3] at hns₁ hsb₁
  rw [s2, s3, ← hI]
  have e01 : @Ne Nat I (I + 1) := by omega
  have e02 : @Ne Nat I (I + 2) := by omega
  have e12 : @Ne Nat (I + 1) (I + 2) := by omega
  have ltI : ∀ {b o}, s₁.heap.get? b = some o → @LT.lt Nat _ b I := fun e => hI ▸ Heap.lt_size e
  have old : ∀ b o, s₁.heap.get? b = some o → h₁.get? b = some o := fun b o e => hsb₁.extBut b o (Nat.ne_of_lt (Nat.lt_trans (ltI e) (Nat.lt_add_of_pos_right (by decide)))) (Heap.get?_push_of_some _ (hh3 ▸ Heap.get?_push_of_some _ (hh2 ▸ Heap.get?_push_of_some _ e)))
  have hit : h₁.get? I = some { cls := .type "list_iterator", data := .fields #[.ref a, .int 0 0] } :=
    hsb₁.extBut I _ e02 (Heap.get?_push_of_some _ (hh3 ▸ Heap.get?_push_of_some _ (hh2 ▸ hI ▸ Heap.get?_push_size _ rfl)))
  have hac : h₁.get? (I + 1) = some (lst []) := hsb₁.extBut _ _ e12 (Heap.get?_push_of_some _ (hh3 ▸ s2 ▸ Heap.get?_push_size _ rfl))
  have fresh : ∀ j, h₀.get? (I + j) = none := fun j => Heap.get?_none_of_le (Nat.le_trans (Nat.le_of_lt (Nat.lt_of_le_of_lt F.above F.ns.lt)) (by rw [hI]; exact Nat.le_add_right _ _))
  have hL : @LT.lt Nat _ L I := hI ▸ F.ns.lt
  have eL0 : @Ne Nat I L := by omega
  have eL1 : @Ne Nat (I + 1) L := by omega
  have eL2 : @Ne Nat (I + 2) L := by omega
  have ea2 : @Ne Nat a (I + 2) := by have : @LT.lt Nat _ a I := hlt; omega
  have ea1 : @Ne Nat a (I + 1) := by have : @LT.lt Nat _ a I := hlt; omega
  have hXI : ∀ p ∈ X, @LT.lt Nat _ p.1 I := fun p hp => hI ▸ Heap.lt_size (N p hp).1
  have st₁ : h₁.IsListIter I a 0 ∧ h₁.IsList a vs.toArray := ⟨⟨_, hit, rfl, rfl⟩, hl.at fun o e => old _ _ e⟩
  have loop : ∀ s₃ : Shared, s₃ = { s₁ with heap := h₁, toks := s₁.toks + ([] : List (Str × Value)).length } →
      codeAny (model prog w) A (.compLoop (.ListComp elt [⟨.Tuple [.Tuple [.Name x₁ p₁, .Name x₂ p₂] k₁ q₁, .Name x₃ p₃] k₂ q₂, iter, [], 0⟩] scope pos) 0 (.ref I) (.ref (I + 1)) (compEnvC scope cl (I + 2) env))
        (compPost (model prog w) A E none Q (.ref (I + 1)) (I + 2)) s₃ := by
    rintro s₃ rfl
    refine LCp.codeAny_compLoop_pair
      (fun k s' => ∃ h tk i ys m' tl, s' = { s₁ with heap := h, toks := tk } ∧ i ≤ vs.length ∧ k = vs.length + 1 - i ∧ (h.IsListIter I a i ∧ h.IsList a vs.toArray) ∧ Fr h₀ L h m ∧ h.Ns (I + 2) m' ∧ News h₀ L h ((I + 1, lst ys) :: (tl ++ X)) ∧
        (∀ p ∈ tl ++ X, p.1 ≠ I ∧ p.1 ≠ I + 2 ∧ p.1 ≠ I + 1) ∧ (∀ p ∈ tl, ∀ q ∈ X, q.1 < p.1) ∧ RsIn (H + 1) (tl ++ X) ys ((xs.take i).map (mvr b))) ?_ (vs.length + 1)
      ⟨h₁, _, 0, [], _, [], rfl, Nat.zero_le _, rfl, st₁, F.keeps old, hns₁, ?_, ?_, (fun _ hp => nomatch hp), .nil⟩
    · rintro k s' ⟨h, tk, i, ys, m', tl, rfl, hi, rfl, st, F', hn, N', off, ord, hR⟩
      have nI : ∀ p ∈ (I + 1, lst ys) :: (tl ++ X), p.1 ≠ I := fun p hp => (List.mem_cons.mp hp).elim (fun e => by rw [e]; exact Nat.succ_ne_self I) fun h => (off p h).1
      by_cases hlt : i < vs.length
      · refine W.item i _ _ _ (by simpa using hlt) st fun v h₂ tk₂ hPv st₂ hk₂ => ?_
        obtain ⟨⟨p, x⟩, hxs, hv⟩ := hr.at (by simpa using hPv)
        have hpx : (p, x) ∈ xs := List.mem_of_getElem? hxs
        cases hv
        rename_i t q nt nq tt tu ty h4 h3
        have N₂ := news_but N' hk₂ nI
        have F₂ := fr_but F' hk₂ (Nat.ne_of_lt hL) (fresh 0)
        have hn₂ : h₂.Ns (I + 2) m' := hn.at' fun o e => hk₂ _ o (by simp) e
        have ht : IsTup h₂ t #[.ref q, .int x ty] := N₂.isTup (List.mem_cons_of_mem _ (List.mem_append.mpr (.inr h3)))
        refine wpAny_letOwnedTupleGo_listiter st₂.1 ?_
        refine assign_Tuple_tuple hh ht rfl rfl fun h₃ he₃ => ?_
        have k₃ : ∀ b o, h₂.get? b = some o → h₃.get? b = some o := fun b o e => he₃ b o (Nat.ne_of_lt (Heap.lt_size e)) e
        have hq : IsTup h₃ q #[.int (en H p) tt, .int (p.length : Int) tu] := (N₂.grown k₃).isTup (List.mem_cons_of_mem _ (List.mem_append.mpr (.inr h4)))
        refine assignInOrder_cons (assign_Tuple_tuple (x1 := k₁) hh hq rfl rfl fun h₄ he₄ => ?_)
        have k₄ : ∀ b o, h₂.get? b = some o → h₄.get? b = some o := fun b o e => he₄ b o (Nat.ne_of_lt (Heap.lt_size (k₃ b o e))) (k₃ b o e)
        refine assignInOrder_cons (wpAny_assign_Name (wpAny_storeName_local (lookup_relabel_local hx₁) (hn₂.at' fun o e => k₄ _ o e) (fun h₅ hn₅ hs₅ => ?_) (by simp [compEnvC, relabel, hkind])))
        refine assignInOrder_cons (wpAny_assign_Name (wpAny_storeName_local (lookup_relabel_local hx₂) hn₅ (fun h₆ hn₆ hs₆ => ?_) (by simp [compEnvC, relabel, hkind])))
        refine assignInOrder_nil ?_
        refine assignInOrder_cons (wpAny_assign_Name (wpAny_storeName_local (lookup_relabel_local hx₃) hn₆ (fun h₇ hn₇ hs₇ => ?_) (by simp [compEnvC, relabel, hkind])))
        refine assignInOrder_nil ?_
        have k₇ : ∀ b o, b ≠ I + 2 → h₂.get? b = some o → h₇.get? b = some o := fun b o hb e => hs₇.extBut b o hb (hs₆.extBut b o hb (hs₅.extBut b o hb (k₄ b o e)))
        have st₇ : h₇.IsListIter I a (i + 1) ∧ h₇.IsList a vs.toArray := ⟨st₂.1.at fun o e => k₇ _ o e02 e, st₂.2.at fun o e => k₇ _ o ea2 e⟩
        obtain ⟨oI, hoI, hcI, hdI⟩ := id st₇.1
        obtain ⟨oC, heC, hoC⟩ := ns_obj hn₇
        have F₇ : Fr h₀ L h₇ m := (((F₂.keeps k₄).change hs₅ eL2 (fresh 2)).change hs₆ eL2 (fresh 2)).change hs₇ eL2 (fresh 2)
        have N₇ : News h₀ L h₇ ((I, oI) :: (I + 2, oC) :: (I + 1, lst ys) :: (tl ++ X)) := fun p hp => by
          rcases List.mem_cons.mp hp with rfl | hp
          · exact ⟨hoI, eL0, fresh 0⟩
          · rcases List.mem_cons.mp hp with rfl | hp
            · exact ⟨heC, eL2, fresh 2⟩
            · have z := N₂ p hp
              refine ⟨k₇ _ _ ?_ z.1, z.2⟩
              rcases List.mem_cons.mp hp with rfl | hp
              · exact e12
              · exact (off p hp).2.1
        refine wpAny_mono (hE I (I + 2) (I + 1) oI oC (lst ys) _ h₇ _ (tl ++ X) p x tt tu ty _ hpx hoC (by simp [n12, n13]) (by simp [n23]) (by simp) F₇ N₇ (fun p hp => List.mem_append.mpr (.inr hp)) off ⟨e02, e01, Ne.symm e12⟩) (fun y s₄ h₄ => ?_) fun _ _ e => e
        obtain ⟨h₈, tk₈, new, rfl, F₈, N₈, off₈, ord₈, hy⟩ := h₄
        have zI := (N₈ (I, oI) List.mem_cons_self).1
        have zC := (N₈ (I + 2, oC) (List.mem_cons_of_mem _ List.mem_cons_self)).1
        have zD := (N₈ (I + 1, lst ys) (List.mem_cons_of_mem _ (List.mem_cons_of_mem _ List.mem_cons_self))).1
        have N₈' : News h₀ L h₈ (new ++ (tl ++ X)) := fun p hp => N₈ p (List.mem_cons_of_mem _ (List.mem_cons_of_mem _ (List.mem_cons_of_mem _ hp)))
        have off9 : ∀ p ∈ new ++ (tl ++ X), p.1 ≠ I ∧ p.1 ≠ I + 2 ∧ p.1 ≠ I + 1 := fun p hp => (List.mem_append.mp hp).elim (off₈ p) (off p)
        have hyl : ys.length = i := by
          have := hR.length
          rw [List.length_map, List.length_take] at this
          omega
        have hla : h₈.IsList a vs.toArray := N₈'.isList (List.mem_append.mpr (.inr (List.mem_append.mpr (.inr hm))))
        refine append_at (hsz := by rw [List.size_toArray, hyl, sizeLine_eq]; omega) zD fun h₉ hs₉ hD₉ => ?_
        refine ⟨vs.length + 1 - (i + 1), by omega, h₉, tk₈, i + 1, ys ++ [y], _, new ++ tl, rfl, hlt, rfl, ⟨⟨oI, hs₉.extBut _ _ e01 zI, hcI, hdI⟩, hla.extBut hs₉.extBut ea1⟩, F₈.change hs₉ eL1 (fresh 1),
          (hoC.ns zC).sameBut hs₉ (Ne.symm e12), fun p hp => ?_, fun p hp => off9 p (by simpa using hp), fun p hp q hq => ?_, ?_⟩
        · rcases List.mem_cons.mp hp with rfl | hp
          · exact ⟨hD₉.trans (congrArg some (lst_snoc ys y)), eL1, fresh 1⟩
          · rw [List.append_assoc] at hp
            exact ⟨hs₉.extBut _ _ (off9 p hp).2.2 (N₈' p hp).1, (N₈' p hp).2⟩
        · rcases List.mem_append.mp hp with h5 | h5
          · exact ord₈ p h5 q (List.mem_append.mpr (.inr hq))
          · exact ord p h5 q hq
        · have e : (xs.take (i + 1)).map (mvr b) = (xs.take i).map (mvr b) ++ [mvr b (p, x)] := by rw [List.take_add_one, hxs]; simp
          rw [e, List.append_assoc]
          exact (hR.mono fun q hq => List.mem_append.mpr (.inr hq)).append (.cons hy .nil)
      · obtain rfl : i = vs.length := Nat.le_antisymm hi (Nat.not_lt.mp hlt)
        refine W.done _ _ _ (by simpa using st) fun h₂ tk₂ hk₂ => ?_
        have N₂ := news_but N' hk₂ nI
        have F₂ := fr_but F' hk₂ (Nat.ne_of_lt hL) (fresh 0)
        have hn₂ : h₂.Ns (I + 2) m' := hn.at' fun o e => hk₂ _ o (by simp) e
        rw [hlv, List.take_length] at hR
        refine ⟨m', hn₂, fun h'' hs'' => fin (I + 1) ys h'' tk₂ tl (F₂.change hs'' eL2 (fresh 2)) (fun p hp => ?_) (fun q hq => Nat.lt_succ_of_lt (hXI q hq)) ord (fun p hp => (off p (List.mem_append.mpr (.inl hp))).2.2) hR⟩
        refine ⟨hs''.extBut _ _ ?_ (N₂ p hp).1, (N₂ p hp).2⟩
        rcases List.mem_cons.mp hp with rfl | hp
        · exact e12
        · exact (off p hp).2.1
    · rw [List.nil_append]
      intro p hp
      rcases List.mem_cons.mp hp with rfl | hp
      · exact ⟨hac, eL1, fresh 1⟩
      · exact ⟨old _ _ (N p hp).1, (N p hp).2⟩
    · rw [List.nil_append]
      intro p hp
      have := hXI p hp
      exact ⟨Nat.ne_of_lt this, Nat.ne_of_lt (Nat.lt_trans this (Nat.lt_add_of_pos_right (by decide))), Nat.ne_of_lt (Nat.lt_succ_of_lt this)⟩
  exact codeAny_compStart_list (loop _ rfl) (W.self 0 _ _ _ st₁ (loop _ rfl))
end
end
section
open PySem PySem.W PyProof.Rows PySem.Spec
/-- the turn over a half's rows -/
def rowsStmt : Stmt := (turnBody[5]?).getD (.Pass ⟨0, 0, 0, 0⟩)
def rowsBody : List Stmt := match rowsStmt with
  | .For _ _ b _ _ => b
  | _ => []
abbrev LH (lo hi : Value) : List (Str × Value) := [(Str.ofString "low", lo), (Str.ofString "high", hi)]
def RMid (w : World) (h₀ : Heap) (L : Addr) (η : HO) (vw vs : Value) (a1 a2 a3 b1 b2 b3 : Tok) (lo hi : Value) (rs : List (List Bool × Int)) (s s' : Shared) : Prop :=
  ∃ h' tk' m' gl' ra, s' = { s with heap := h', toks := tk' } ∧ Fr h₀ L h' m' ∧ (∀ q ∈ (Str.ofString "rows", .ref ra) :: LH lo hi ++ hnms η, m' q.1 = some q.2) ∧
    News h₀ L h' (hled w L { η with gl := gl' } vw vs a1 a2 a3 b1 b2 b3) ∧ (∀ p ∈ η.gl, p ∈ gl') ∧ (∀ p ∈ gl', @LT.lt Nat _ η.hv p.1) ∧ LsIn (η.H + 1) gl' (.ref ra) rs
theorem RsIn.above {B : Nat} {X : List (Addr × Obj)} {hv : Addr} {vs : List Value} {xs} (h : RsIn B X vs xs) (hX : ∀ p ∈ X, @LT.lt Nat _ hv p.1 ∨ ∀ vs n, p.2 ≠ tupO vs n) : RsIn B (X.filter fun p => decide (@LT.lt Nat _ hv p.1)) vs xs := by
  have key : ∀ {a : Addr} {vs : List Value} {n : Nat}, (a, tupO vs n) ∈ X → (a, tupO vs n) ∈ X.filter fun p => decide (@LT.lt Nat _ hv p.1) := fun hm => List.mem_filter.mpr ⟨hm, decide_eq_true ((hX _ hm).elim id fun h => absurd rfl (h _ _))⟩
  induction h with
  | nil => exact .nil
  | cons h1 _ ih =>
    refine .cons ?_ ih
    cases h1 with
    | some a b => exact .some (key a) (key b)
theorem RMid.of {w : World} {h₀ : Heap} {L : Addr} {η : HO} {vw vs : Value} {a1 a2 a3 b1 b2 b3 : Tok} {lo hi : Value} {rs : List (List Bool × Int)} {s : Shared} {h' : Heap} {tk : Nat} {m' : Str → Option Value} {X : List (Addr × Obj)} {ra : Addr} {va : List Value} {n : Nat}
    (F : Fr h₀ L h' m') (N : News h₀ L h' X) (hm : ∀ q ∈ (Str.ofString "rows", .ref ra) :: LH lo hi ++ hnms η, m' q.1 = some q.2) (hX : ∀ p ∈ X, @LT.lt Nat _ η.hv p.1 ∨ ∀ vs n, p.2 ≠ tupO vs n)
    (hs : ∀ p ∈ hled w L { η with gl := [] } vw vs a1 a2 a3 b1 b2 b3, p ∈ X) (hg : ∀ p ∈ η.gl, p ∈ X) (hg' : ∀ p ∈ η.gl, @LT.lt Nat _ η.hv p.1) (h1 : (ra, listOf va.toArray n) ∈ X) (h1' : @LT.lt Nat _ η.hv ra) (h2 : RsIn (η.H + 1) X va rs) : RMid w h₀ L η vw vs a1 a2 a3 b1 b2 b3 lo hi rs s { s with heap := h', toks := tk } := by
  refine ⟨_, _, _, X.filter fun p => decide (@LT.lt Nat _ η.hv p.1), ra, rfl, F, hm, fun p hp => N p ?_, fun p hp => List.mem_filter.mpr ⟨hg p hp, by simpa using hg' p hp⟩, fun p hp => by simpa using (List.mem_filter.mp hp).2, .mk (List.mem_filter.mpr ⟨h1, by simpa using h1'⟩) (h2.above hX)⟩
  have hp' : p ∈ hled w L { η with gl := [] } vw vs a1 a2 a3 b1 b2 b3 ++ X.filter fun p => decide (@LT.lt Nat _ η.hv p.1) := hp
  rcases List.mem_append.mp hp' with h | h
  · exact hs p h
  · exact (List.mem_filter.mp h).1
end
section
open PySem PySem.W PyProof.Rows PySem.Spec PySem.Calls
open PyProof.Rows.LCg
/-- what a turn leaves: the iterator I stands by the ledger X' -/
def TurnPost (h₀ : Heap) (L : Addr) (s : Shared) (I : Addr) (oI : Obj) (J : (Str → Option Value) → List (Addr × Obj) → Prop) (f : Flow) (s' : Shared) : Prop :=
  f = .next ∧ ∃ h' tk' m' X', s' = { s with heap := h', toks := tk' } ∧ Fr h₀ L h' m' ∧ News h₀ L h' ((I, oI) :: X') ∧ (∀ p ∈ X', p.1 ≠ I) ∧ J m' X'
def Step (prog : Program) (w : World) (A : Around) (h₀ : Heap) (env : Env) (target : Expr) (body : List Stmt) (s : Shared) (I : Addr) (n : Nat) (P : Nat → Value → Prop) (J : Nat → (Str → Option Value) → List (Addr × Obj) → Prop) : Prop :=
  ∀ i v m₁ X oI h tk, i < n → P i v → J i m₁ X → (∀ p ∈ X, p.1 ≠ I) → (oI.cls ≠ .type "tuple" ∧ oI.cls ≠ .type "list") → Fr h₀ env.locals h m₁ → News h₀ env.locals h ((I, oI) :: X) →
    wpAny (model prog w) A (assign target env v) (fun _ s₂ => wpAny (model prog w) A (execs body env) (TurnPost h₀ env.locals s I oI (J (i + 1))) (fun _ _ => False) s₂) (fun _ _ => False) { s with heap := h, toks := tk }
def WalkAt (prog : Program) (w : World) (A : Around) (env : Env) (target : Expr) (body : List Stmt) (Q : Flow → Shared → Prop) (it : Value) (s : Shared) : Prop :=
  codeAny (model prog w) A (.forLoop target it body [] env) (fun r s' => match r with | .ok f => Q f s' | .error _ => False) s
section
variable {prog : Program} {w : World} {A : Around} {E : Value → Shared → Prop} {s : Shared} {h₀ : Heap} {m : Str → Option Value} {env : Env}
theorem for_walk {target : Expr} {body : List Stmt} {Q : Flow → Shared → Prop} {I : Addr} {keep news : List (Addr × Obj)} {n : Nat} {P : Nat → Value → Prop} {St : Nat → Heap → Prop} (J : Nat → (Str → Option Value) → List (Addr × Obj) → Prop)
    (W : Walks prog w A I (I :: keep.map (·.1)) [I] n P St) (hSt : ∀ i h, St i h → ∃ o, h.get? I = some o ∧ o.cls ≠ .type "tuple" ∧ o.cls ≠ .type "list") (hgo : ∀ i (s' : Shared) v (Q' : Unit → Shared → Prop) E', St i s'.heap → Q' () s' → wpAny (model prog w) A (letOwnedTupleGo target (.ref I) v) Q' E' s')
    (hk : ∀ i m X, J i m X → ∀ p ∈ keep, p ∈ X) (st : St 0 s.heap) (F : Fr h₀ env.locals s.heap m) (N : News h₀ env.locals s.heap news) (hn : ∀ p ∈ news, p.1 ≠ I) (hI : h₀.get? I = none) (hIL : env.locals ≠ I) (j0 : J 0 m news)
    (step : Step prog w A h₀ env target body s I n P J)
    (done : ∀ m₁ X h tk, J n m₁ X → Fr h₀ env.locals h m₁ → News h₀ env.locals h X → Q .next { s with heap := h, toks := tk }) : WalkAt prog w A env target body Q (.ref I) s := by
  refine codeAny_forLoop_any (fun k s' => ∃ h tk m' X i, s' = { s with heap := h, toks := tk } ∧ St i h ∧ Fr h₀ env.locals h m' ∧ News h₀ env.locals h X ∧ (∀ p ∈ X, p.1 ≠ I) ∧ J i m' X ∧ i ≤ n ∧ k = n + 1 - i) ?_ (n + 1)
    ⟨s.heap, s.toks, m, news, 0, rfl, st, F, N, hn, j0, Nat.zero_le _, rfl⟩
  rintro k s' ⟨h, tk, m', X, i, rfl, st', F', N', hX, hJ, hi, rfl⟩
  by_cases hlt : i < n
  · refine W.item i _ _ _ hlt st' fun v h₁ tk₁ hP st₁ hk₁ => ?_
    have F₁ := fr_but F' hk₁ hIL hI
    have N₁ := news_but N' hk₁ hX
    obtain ⟨oI, hoI, hnt⟩ := hSt _ _ st₁
    have N₂ : News h₀ env.locals h₁ ((I, oI) :: X) := fun p hp => by
      rcases List.mem_cons.mp hp with rfl | hp
      · exact ⟨hoI, Ne.symm hIL, hI⟩
      · exact N₁ p hp
    refine hgo (i + 1) _ v _ _ st₁ ?_
    refine wpAny_mono (step i v m' X oI h₁ tk₁ hlt hP hJ hX hnt F₁ N₂) (fun _ s₂ h₂ => wpAny_mono h₂ (fun f s₃ h₃ => ?_) fun _ _ e => e.elim) fun _ _ e => e.elim
    obtain ⟨rfl, h', tk', m₂, X', rfl, F₃, N₃, hX', hJ'⟩ := h₃
    refine ⟨n + 1 - (i + 1), by omega, h', tk', m₂, X', i + 1, rfl, ?_, F₃, fun p hp => N₃ p (List.mem_cons_of_mem _ hp), hX', hJ', hlt, rfl⟩
    refine W.frame _ _ _ st₁ fun b hb o e => ?_
    rcases List.mem_cons.mp hb with rfl | hb
    · rw [hoI] at e
      rw [← Option.some.inj e]
      exact (N₃ (b, oI) (List.mem_cons_self ..)).1
    · obtain ⟨q, hq, rfl⟩ := List.mem_map.mp hb
      have e1 := (N₁ q (hk _ _ _ hJ q hq)).1
      rw [e] at e1
      rw [Option.some.inj e1]
      exact (N₃ q (List.mem_cons_of_mem _ (hk _ _ _ hJ' q hq))).1
  · have hin : i = n := by omega
    subst hin
    refine W.done _ _ _ st' fun h₁ tk₁ hk₁ => wpAny_execs_nil ?_
    exact done m' X h₁ tk₁ hJ (fr_but F' hk₁ hIL hI) (news_but N' hk₁ hX)
theorem For_w {target iter : Expr} {body : List Stmt} {pos : Pos} {Q : Flow → Shared → Prop} (_F : Fr h₀ env.locals s.heap m)
    (h : wpAny (model prog w) A (eval iter env) (fun xv s₁ => wpAny (model prog w) A (pyIter xv) (WalkAt prog w A env target body Q) E s₁) E s)
    (hs : ∀ x, foldedSetIterable iter env x = pure x := by intro _; rfl) : wpAny (model prog w) A (exec (.For target iter body [] pos) env) Q E s := by
  refine wpAny_For (wpAny_mono h (fun xv s₁ h₁ => wpAny_mono h₁ (fun it s₂ h₂ => codeAny_mono h₂ fun r s' hr => ?_) fun _ _ e => e) fun _ _ e => e) hs
  cases r with
  | ok f => exact hr
  | error e => exact hr.elim
theorem go_name {x : Str} {px : Pos} {I : Addr} {v : Value} {Q' : Unit → Shared → Prop} {s' : Shared} {E' : Value → Shared → Prop} (h : Q' () s') : wpAny (model prog w) A (letOwnedTupleGo (.Name x px) (.ref I) v) Q' E' s' := by
  unfold letOwnedTupleGo
  exact wpAny_pure h
theorem tup_walk {x : Str} {px : Pos} {body : List Stmt} {Q : Flow → Shared → Prop} {t : Addr} {items : List Value} {k : Nat} {news : List (Addr × Obj)} (J : Nat → (Str → Option Value) → List (Addr × Obj) → Prop)
    (hh : A.handled = none) (F : Fr h₀ env.locals s.heap m) (N : News h₀ env.locals s.heap news) (ht : (t, tupO items k) ∈ news) (hk : ∀ i m X, J i m X → (t, tupO items k) ∈ X) (j0 : J 0 m news)
    (step : ∀ I, (∀ p ∈ news, p.1 < I) → Step prog w A h₀ env (.Name x px) body s I items.length (fun i v => items[i]? = some v) J)
    (done : ∀ m₁ X h tk, J items.length m₁ X → Fr h₀ env.locals h m₁ → News h₀ env.locals h X → Q .next { s with heap := h, toks := tk }) :
    wpAny (model prog w) A (pyIter (.ref t)) (WalkAt prog w A env (.Name x px) body Q) E s := by
  have hT : s.heap.IsTuple t items.toArray := ⟨_, (N _ ht).1, rfl, _, rfl⟩
  have hlt : t < s.heap.objs.size := Heap.lt_size (N _ ht).1
  refine wpAny_pyIter_tuple hT ?_
  have up : ∀ b o, s.heap.get? b = some o → (s.heap.push { cls := .type "tuple_iterator", data := .fields #[.ref t, .int 0 0] }).get? b = some o := fun b o e => Heap.get?_push_of_some _ e
  have W := Walks.tuple (prog := prog) (w := w) hh s.heap.objs.size t (Nat.ne_of_lt hlt) items.toArray
  have e : items.toArray.size = items.length := by simp
  rw [e] at W
  refine for_walk (keep := [(t, tupO items k)]) (h₀ := h₀) J W (fun i h st => ?_) (fun _ _ _ _ _ _ h => go_name h) (fun i m X hJ p hp => by rw [List.mem_singleton.mp hp]; exact hk i m X hJ) ⟨⟨_, Heap.get?_push_size _ rfl, rfl, rfl⟩, hT.at fun o e => up _ _ e⟩
    (F.keeps up) (N.grown up) (fun p hp => Nat.ne_of_lt (Heap.lt_size (N p hp).1)) (next_is_new F) (Nat.ne_of_lt F.ns.lt) j0 ?_ done
  · obtain ⟨o, ho, hc, _⟩ := st.1
    exact ⟨o, ho, fun e => by rw [hc] at e; exact absurd (Value.type.inj e) (by decide), fun e => by rw [hc] at e; exact absurd (Value.type.inj e) (by decide)⟩
  · have := step s.heap.objs.size fun p hp => Heap.lt_size (N p hp).1
    intro i v m₁ X oI h tk hi hP
    exact this i v m₁ X oI h tk hi (by simpa using hP)
theorem range_walk {x : Str} {px : Pos} {body : List Stmt} {Q : Flow → Shared → Prop} {r : Addr} {b₀ : Int} {t₀ u₀ v₀ : Tok} {n : Nat} {news : List (Addr × Obj)} (J : Nat → (Str → Option Value) → List (Addr × Obj) → Prop)
    (hh : A.handled = none) (hr : IsRange s.heap r 0 b₀ 1 t₀ u₀ v₀) (hsmall : Builtin.Range.small 0 b₀ 1 = true) (hn : Builtin.Range.rangeSize 0 b₀ 1 = (n : Int)) (F : Fr h₀ env.locals s.heap m) (N : News h₀ env.locals s.heap news) (j0 : J 0 m news)
    (step : ∀ I, (∀ p ∈ news, p.1 < I) → Step prog w A h₀ env (.Name x px) body s I n (fun i v => ∃ t, v = .int (i : Int) t) J)
    (done : ∀ m₁ X h tk, J n m₁ X → Fr h₀ env.locals h m₁ → News h₀ env.locals h X → Q .next { s with heap := h, toks := tk }) :
    wpAny (model prog w) A (pyIter (.ref r)) (WalkAt prog w A env (.Name x px) body Q) E s := by
  refine wpAny_pyIter_range hr hsmall ?_
  have W : Walks prog w A s.heap.objs.size [s.heap.objs.size] [s.heap.objs.size] n (fun i v => i < n ∧ ∃ t, v = .int (0 + i * 1) t)
      (fun i h => IsRangeIter h s.heap.objs.size (0 + (i : Nat) * 1) ((n : Int) - (i : Nat)) 1) := (Walks.range hh _ 0 1 n).bound
  refine for_walk (keep := []) (h₀ := h₀) J W (fun i h st => ⟨_, st, fun e => absurd (Value.type.inj e) (by decide), fun e => absurd (Value.type.inj e) (by decide)⟩) (fun _ _ _ _ _ _ h => go_name h) (fun _ _ _ _ _ hp => nomatch hp) (by show IsRangeIter _ _ _ _ _; rw [hn]; simpa using Heap.get?_push_size _ rfl)
    (F.push _) (fun p hp => ⟨Heap.get?_push_of_some _ (N p hp).1, (N p hp).2⟩) (fun p hp => Nat.ne_of_lt (Heap.lt_size (N p hp).1)) (next_is_new F) (Nat.ne_of_lt F.ns.lt) j0 ?_ done
  have := step s.heap.objs.size fun p hp => Heap.lt_size (N p hp).1
  rintro i v m₁ X oI h tk hi ⟨_, t, e⟩
  exact this i v m₁ X oI h tk hi ⟨t, by rw [e]; congr 1; omega⟩
end
end
local macro_rules | `(tactic| walk_at "my b5") => `(tactic| ((with_reducible show wpAny _ _ (call (Value.ref 168) [Value.ref _, Value.int _ _]) _ _ _); k_dflt (refine' draw_upd _ _ _ _ _ _ _ _ _ _ _ _ _ _ _ _ _ _ _ _ _ _ _ _ _ _ _ _ _ _ ?Bl ?F ?Kx ?N ?T ?hk ?U ?hm ?hne ?hI ?hlen ?h0 ?h1 ?hm0 ?hm1 ?hd ?hu ?_; (case F => k_asm); (case N => k_asm); (case Bl => k_asm); (case Kx => k_asm); (case T => k_asm); (case hk => exact rfl); (case U => (intro t9 d9; k_upd)); (case hm => k_mem); (case hne => k_ne); (case hI => assumption); (case hlen => ((try simp only [List.length_take]); omega)); (case h0 => omega); (case h1 => omega); (case hm0 => omega); (case hm1 => omega); (case hd => decide); (case hu => decide)); intro r9 h9 tk9 t9 tr9 d9 hr0 hr1 F9 N9; (try dsimp only); (try k_fold)))
section
open PySem PySem.W PyProof.Rows
local macro_rules | `(tactic| walk_at "call ref") => `(tactic| walk_at "my b5")
local macro_rules | `(tactic| walk_at "binaryOp Mult int int") => `(tactic| (refine mul_bit ?_; intro tk9))
local macro_rules | `(tactic| walk_at "subscriptTail") => `(tactic| walk_at "my b4")
set_option maxRecDepth 100000 in
set_option maxHeartbeats 8000000 in
theorem put_half (w : World) {pr loose mean mg mb} (fa L : Addr) (cd : Value) (base h₀ : Heap) (Bl : Below callerA base [] h₀) (X : (hd.heap_1 w.params).In h₀) (T : Top pr loose mean mg mb h₀)
    (b : Bool) (η : HO) (hη : η.Ok L b) (tw tS : PT) (p : List Bool) (hp : p.length ≤ η.H) (vw vs : Value) (a1 a2 a3 b1 b2 b3 : Tok) (hw : TIn (η.H + 1) η.gl vw tw) (h0 : TIn η.H η.gl vs tS) (lw : tw.lens (η.H + 1)) (l0 : tS.lens η.H) (cw : tw.depth ≤ 33) (c0 : tS.depth ≤ 16) (ho : handedIn η.vo = true)
    (m : Str → Option Value) (s : Shared) (E : Value → Shared → Prop)
    (F : Fr h₀ L s.heap m) (hm : ∀ q ∈ hnms η, m q.1 = some q.2) (N : News h₀ L s.heap (hled w L η vw vs a1 a2 a3 b1 b2 b3))
    (fo : Int) (tr tl9 tp : Tok) (hfo : fo < 5)
    (hf : m (Str.ofString "form") = some (.int fo tr))
    (hln : m (Str.ofString "length") = some (.int (p.length : Int) tl9))
    (hsp : m (Str.ofString "spot") = some (.int (en η.H p) tp)) :
    wpAny (model Challenge.rw_sj0175_01.row.prog w) (callerA.deeper (envOfC (Str.ofString "law") lawScope L fa cd)) (exec pdStmt (envOfC (Str.ofString "law") lawScope L fa cd))
      (fun f s' => f = .next ∧ HRet w h₀ L η (put tw (b :: p) (some (fo + 1))) (put tS p (some (fo + 1))) s s') E s := by
  revert X
  k_fill
  intro X
  k_with_none
  rw [← over_self (l := (Str.ofString "spot", .int (en η.H p) tp) :: (Str.ofString "length", .int (p.length : Int) tl9) :: (Str.ofString "form", .int fo tr) :: hnms η) (List.forall_mem_cons.mpr ⟨hsp, List.forall_mem_cons.mpr ⟨hln, List.forall_mem_cons.mpr ⟨hf, hm⟩⟩⟩)] at F
  obtain ⟨H, ls, bx, dw, xw, ds, xs, do', xo, hv, y0, y1, ws, c', c'', c, oz, so, k, kt, tb, kv, vo, e1, e2, e3, gl⟩ := η
  obtain ⟨hH, o2, o3, o4, o5, p1, p2, p3, q1, q2, q3, n1, n2, n3, n4, hb, ⟨tz, hz⟩, ⟨ts, hs⟩, hgl⟩ := hη
  dsimp only [over, hnms, hled] at *
  have hdw := hw.handed
  have hd0 := h0.handed
  show wpAny _ _ (exec (.If _ _ _ _) _) _ _ _
  have Hpu := put_u w pr loose mean mg mb
  k_with "call ref" => ((with_reducible show wpAny _ _ (call (Value.ref 126) _) _ _ _); (refine wpAny_call ?_); k_dflt (refine' code_def ?k1 ?k2 ?k3 ?k4 ?k5 ?kA ?kF ?kK ?k6 ?k7 ?k8 ?k9 ?kB ?_ ?c2 ?c3 ?c4 ?c5; (case kA => exact rfl); (case kF => exact rfl); (case kK => exact rfl); (case k1 => k_asm); (case k2 => k_asm); (case k3 => k_asm); (case k4 => k_asm); (case k5 => k_asm); (case k6 => k_is); (case k7 => k_is); (case k8 => ktr_room); (case k9 => exact BindsTo.of_eq rfl); (case c5 => decide); (case kB => exact locs rfl); (case c2 => exact rfl); (case c3 => exact rfl); (case c4 => exact rfl); k_whole; intro g' L' h' FG' F' N' B' X' T'; (try dsimp only); (try k_fold)))
  k_with "call ref" => ((with_reducible show wpAny _ _ (call (Value.ref 133) _) _ _ _); (refine wpAny_call ?_); k_dflt (refine' code_def ?k1 ?k2 ?k3 ?k4 ?k5 ?kA ?kF ?kK ?k6 ?k7 ?k8 ?k9 ?kB ?_ ?c2 ?c3 ?c4 ?c5; (case kA => exact rfl); (case kF => exact rfl); (case kK => exact rfl); (case k1 => k_asm); (case k2 => k_asm); (case k3 => k_asm); (case k4 => k_asm); (case k5 => k_asm); (case k6 => k_is); (case k7 => k_is); (case k8 => ktr_room); (case k9 => exact BindsTo.of_eq rfl); (case c5 => decide); (case kB => exact locs rfl); (case c2 => exact rfl); (case c3 => exact rfl); (case c4 => exact rfl); k_whole; intro g' L' h' FG' F' N' B' X' T'; (try dsimp only); (try k_fold)))
  k_with "tree" => ((show (_ : Nat) < _); simp only [putU, drU, exU])
  k_with "call ref" => (ktn_call (Str.ofString "tree_put") putU; (rename TIn _ _ _ _ => ho9); (have hoh := ho9.handed))
  k_steps
  refine' HRet.of ?F ?N ?M ?A ?S ?W ?Z
  case F => k_asm
  case N => k_asm
  case S =>
    dsimp only [hled]
    kqd_sub
  case A => walk_at "my over"
  case M =>
    dsimp only [hnms]
    repeat' (first | exact List.forall_mem_nil _ | refine List.forall_mem_cons.mpr ⟨?_, ?_⟩ | rfl)
  case W => exact TIn.move (by assumption) (by walk_at "my move")
  case Z => exact TIn.move (by assumption) (by walk_at "my move")
end
section
open PySem PySem.W PyProof.Rows
local macro_rules | `(tactic| walk_at "call ref") => `(tactic| walk_at "my b5")
local macro_rules | `(tactic| walk_at "binaryOp Mult int int") => `(tactic| (refine mul_bit ?_; intro tk9))
local macro_rules | `(tactic| walk_at "subscriptTail") => `(tactic| walk_at "my b4")
local macro_rules | `(tactic| walk_at "compareOp NotEq ref ref") => `(tactic| (refine' ne_rows_nil ?N ?a ?b ?c ?d ?_; (case N => k_asm); (case a => k_mem); (case b => exact RsIn.mono (by assumption) (by kqd_sub)); (case c => k_mem); (case d => k_units)))
local macro_rules | `(tactic| walk_at "subscriptTail") => `(tactic| ((with_reducible show wpAny _ _ (subscriptTail _ _ (Value.ref _) (Value.int 0 _)) _ _ _); k_dflt (refine' item0_rows ?N ?m ?r ?h ?_; (case N => k_asm); (case m => k_mem); (case r => exact RsIn.mono (by assumption) (by kqd_sub)); (case h => assumption)); intro a9 q9 p9 x9 n9 m9 t9 u9 y9 hq9 hp9 hx9))
set_option maxRecDepth 100000 in
set_option maxHeartbeats 8000000 in
theorem rows_half (w : World) {pr loose mean mg mb} (fa L : Addr) (cd : Value) (base h₀ : Heap) (Bl : Below callerA base [] h₀) (X : (hd.heap_1 w.params).In h₀) (T : Top pr loose mean mg mb h₀)
    (b : Bool) (η : HO) (hη : η.Ok L b) (tw tS : PT) (p : List Bool) (hp : p.length ≤ η.H) (vw vs : Value) (a1 a2 a3 b1 b2 b3 : Tok) (hw : TIn (η.H + 1) η.gl vw tw) (h0 : TIn η.H η.gl vs tS) (lw : tw.lens (η.H + 1)) (l0 : tS.lens η.H) (cw : tw.depth ≤ 33) (c0 : tS.depth ≤ 16) (ho : handedIn η.vo = true)
    (m : Str → Option Value) (s : Shared) (E : Value → Shared → Prop)
    (F : Fr h₀ L s.heap m) (hm : ∀ q ∈ hnms η, m q.1 = some q.2) (N : News h₀ L s.heap (hled w L η vw vs a1 a2 a3 b1 b2 b3))
    (cn : tS.count ≤ 100) (fo : Int) (tr tl9 tp : Tok)
    (hf : m (Str.ofString "form") = some (.int fo tr))
    (hln : m (Str.ofString "length") = some (.int (p.length : Int) tl9))
    (hsp : m (Str.ofString "spot") = some (.int (en η.H p) tp)) :
    wpAny (model Challenge.rw_sj0175_01.row.prog w) (callerA.deeper (envOfC (Str.ofString "law") lawScope L fa cd)) (execs (dropBody.take 2) (envOfC (Str.ofString "law") lawScope L fa cd))
      (fun f s' => f = .next ∧ HMid w h₀ L η vw vs a1 a2 a3 b1 b2 b3 s s') E s := by
  revert X
  k_fill
  intro X
  k_with_none
  rw [← over_self (l := (Str.ofString "spot", .int (en η.H p) tp) :: (Str.ofString "length", .int (p.length : Int) tl9) :: (Str.ofString "form", .int fo tr) :: hnms η) (List.forall_mem_cons.mpr ⟨hsp, List.forall_mem_cons.mpr ⟨hln, List.forall_mem_cons.mpr ⟨hf, hm⟩⟩⟩)] at F
  obtain ⟨H, ls, bx, dw, xw, ds, xs, do', xo, hv, y0, y1, ws, c', c'', c, oz, so, k, kt, tb, kv, vo, e1, e2, e3, gl⟩ := η
  obtain ⟨hH, o2, o3, o4, o5, p1, p2, p3, q1, q2, q3, n1, n2, n3, n4, hb, ⟨tz, hz⟩, ⟨ts, hs⟩, hgl⟩ := hη
  dsimp only [over, hnms, hled] at *
  have hdw := hw.handed
  have hd0 := h0.handed
  show wpAny _ _ (execs [_, _] _) _ _ _
  have Hal := al_u w pr loose mean mg mb
  k_with "call ref" => ((with_reducible show wpAny _ _ (call (Value.ref 126) _) _ _ _); (refine wpAny_call ?_); k_dflt (refine' code_def ?k1 ?k2 ?k3 ?k4 ?k5 ?kA ?kF ?kK ?k6 ?k7 ?k8 ?k9 ?kB ?_ ?c2 ?c3 ?c4 ?c5; (case kA => exact rfl); (case kF => exact rfl); (case kK => exact rfl); (case k1 => k_asm); (case k2 => k_asm); (case k3 => k_asm); (case k4 => k_asm); (case k5 => k_asm); (case k6 => k_is); (case k7 => k_is); (case k8 => ktr_room); (case k9 => exact BindsTo.of_eq rfl); (case c5 => decide); (case kB => exact locs rfl); (case c2 => exact rfl); (case c3 => exact rfl); (case c4 => exact rfl); k_whole; intro g' L' h' FG' F' N' B' X' T'; (try dsimp only); (try k_fold)))
  k_with "call ref" => ((with_reducible show wpAny _ _ (call (Value.ref 133) _) _ _ _); (refine wpAny_call ?_); k_dflt (refine' code_def ?k1 ?k2 ?k3 ?k4 ?k5 ?kA ?kF ?kK ?k6 ?k7 ?k8 ?k9 ?kB ?_ ?c2 ?c3 ?c4 ?c5; (case kA => exact rfl); (case kF => exact rfl); (case kK => exact rfl); (case k1 => k_asm); (case k2 => k_asm); (case k3 => k_asm); (case k4 => k_asm); (case k5 => k_asm); (case k6 => k_is); (case k7 => k_is); (case k8 => ktr_room); (case k9 => exact BindsTo.of_eq rfl); (case c5 => decide); (case kB => exact locs rfl); (case c2 => exact rfl); (case c3 => exact rfl); (case c4 => exact rfl); k_whole; intro g' L' h' FG' F' N' B' X' T'; (try dsimp only); (try k_fold)))
  k_with "tree" => ((show (_ : Nat) < _); simp only [putU, drU, exU, alU])
  k_with "call ref" => (ktn_call (Str.ofString "tree_all") alU; (rename LsIn _ _ _ _ => ho9); (obtain ⟨hm9, hr9⟩ := ho9))
  k_steps
  · refine' HMid.of p _ _ ?F ?N ?M ?S ?G hgl ?P
    case F => k_asm
    case N => k_asm
    case S =>
      dsimp only [hled]
      kqd_sub
    case G => kqd_sub
    case M =>
      dsimp only [hnms]
      repeat' (first | exact List.forall_mem_nil _ | refine List.forall_mem_cons.mpr ⟨?_, ?_⟩ | rfl)
    case P => exact hp
  · refine' HMid.of _ _ _ ?F ?N ?M ?S ?G hgl ?P
    case F => k_asm
    case N => k_asm
    case S =>
      dsimp only [hled]
      kqd_sub
    case G => kqd_sub
    case M =>
      dsimp only [hnms]
      repeat' (first | exact List.forall_mem_nil _ | refine List.forall_mem_cons.mpr ⟨?_, ?_⟩ | rfl)
    case P => exact rows_lens tS l0 (_, _) (by assumption)
  · refine' HMid.of p _ _ ?F ?N ?M ?S ?G hgl ?P
    case F => k_asm
    case N => k_asm
    case S =>
      dsimp only [hled]
      kqd_sub
    case G => kqd_sub
    case M =>
      dsimp only [hnms]
      repeat' (first | exact List.forall_mem_nil _ | refine List.forall_mem_cons.mpr ⟨?_, ?_⟩ | rfl)
    case P => exact hp
end
section
open PySem PySem.W PyProof.Rows
local macro_rules | `(tactic| walk_at "call ref") => `(tactic| walk_at "my b5")
local macro_rules | `(tactic| walk_at "binaryOp Mult int int") => `(tactic| (refine mul_bit ?_; intro tk9))
local macro_rules | `(tactic| walk_at "subscriptTail") => `(tactic| walk_at "my b4")
local macro_rules | `(tactic| walk_at "compareOp IsNot") => `(tactic| (refine' isNot_ow ?h ?_; (case h => assumption)))
local macro_rules | `(tactic| walk_at "compareOp IsNot none") => `(tactic| (refine' isNot_ow ?h ?_; (case h => assumption)))
local macro_rules | `(tactic| walk_at "ite") => `(tactic| (k_openite; refine ite_neg bne_self_f ?_))
set_option maxRecDepth 100000 in
set_option maxHeartbeats 8000000 in
theorem drop_half (w : World) {pr loose mean mg mb} (fa L : Addr) (cd : Value) (base h₀ : Heap) (Bl : Below callerA base [] h₀) (X : (hd.heap_1 w.params).In h₀) (T : Top pr loose mean mg mb h₀)
    (b : Bool) (η : HO) (hη : η.Ok L b) (tw tS : PT) (p : List Bool) (hp : p.length ≤ η.H) (vw vs : Value) (a1 a2 a3 b1 b2 b3 : Tok) (hw : TIn (η.H + 1) η.gl vw tw) (h0 : TIn η.H η.gl vs tS) (lw : tw.lens (η.H + 1)) (l0 : tS.lens η.H) (cw : tw.depth ≤ 33) (c0 : tS.depth ≤ 16) (ho : handedIn η.vo = true)
    (m : Str → Option Value) (s : Shared) (E : Value → Shared → Prop)
    (F : Fr h₀ L s.heap m) (hm : ∀ q ∈ hnms η, m q.1 = some q.2) (N : News h₀ L s.heap (hled w L η vw vs a1 a2 a3 b1 b2 b3))
    (hex : exact tw (b :: p) = exact tS p) (tl9 tp : Tok)
    (hln : m (Str.ofString "length") = some (.int (p.length : Int) tl9))
    (hsp : m (Str.ofString "spot") = some (.int (en η.H p) tp)) :
    wpAny (model Challenge.rw_sj0175_01.row.prog w) (callerA.deeper (envOfC (Str.ofString "law") lawScope L fa cd)) (execs (dropBody.drop 2) (envOfC (Str.ofString "law") lawScope L fa cd))
      (fun f s' => f = .next ∧ HRet w h₀ L η (drop tw (b :: p)) (drop tS p) s s') E s := by
  revert X
  k_fill
  intro X
  k_with_none
  rw [← over_self (l := (Str.ofString "spot", .int (en η.H p) tp) :: (Str.ofString "length", .int (p.length : Int) tl9) :: hnms η) (List.forall_mem_cons.mpr ⟨hsp, List.forall_mem_cons.mpr ⟨hln, hm⟩⟩)] at F
  obtain ⟨H, ls, bx, dw, xw, ds, xs, do', xo, hv, y0, y1, ws, c', c'', c, oz, so, k, kt, tb, kv, vo, e1, e2, e3, gl⟩ := η
  obtain ⟨hH, o2, o3, o4, o5, p1, p2, p3, q1, q2, q3, n1, n2, n3, n4, hb, ⟨tz, hz⟩, ⟨ts, hs⟩, hgl⟩ := hη
  dsimp only [over, hnms, hled] at *
  have hdw := hw.handed
  have hd0 := h0.handed
  show wpAny _ _ (execs [_, _] _) _ _ _
  have Hdr := dr_u w pr loose mean mg mb
  have Hex := ex_u w pr loose mean mg mb
  k_with "call ref" => ((with_reducible show wpAny _ _ (call (Value.ref 126) _) _ _ _); (refine wpAny_call ?_); k_dflt (refine' code_def ?k1 ?k2 ?k3 ?k4 ?k5 ?kA ?kF ?kK ?k6 ?k7 ?k8 ?k9 ?kB ?_ ?c2 ?c3 ?c4 ?c5; (case kA => exact rfl); (case kF => exact rfl); (case kK => exact rfl); (case k1 => k_asm); (case k2 => k_asm); (case k3 => k_asm); (case k4 => k_asm); (case k5 => k_asm); (case k6 => k_is); (case k7 => k_is); (case k8 => ktr_room); (case k9 => exact BindsTo.of_eq rfl); (case c5 => decide); (case kB => exact locs rfl); (case c2 => exact rfl); (case c3 => exact rfl); (case c4 => exact rfl); k_whole; intro g' L' h' FG' F' N' B' X' T'; (try dsimp only); (try k_fold)))
  k_with "call ref" => ((with_reducible show wpAny _ _ (call (Value.ref 133) _) _ _ _); (refine wpAny_call ?_); k_dflt (refine' code_def ?k1 ?k2 ?k3 ?k4 ?k5 ?kA ?kF ?kK ?k6 ?k7 ?k8 ?k9 ?kB ?_ ?c2 ?c3 ?c4 ?c5; (case kA => exact rfl); (case kF => exact rfl); (case kK => exact rfl); (case k1 => k_asm); (case k2 => k_asm); (case k3 => k_asm); (case k4 => k_asm); (case k5 => k_asm); (case k6 => k_is); (case k7 => k_is); (case k8 => ktr_room); (case k9 => exact BindsTo.of_eq rfl); (case c5 => decide); (case kB => exact locs rfl); (case c2 => exact rfl); (case c3 => exact rfl); (case c4 => exact rfl); k_whole; intro g' L' h' FG' F' N' B' X' T'; (try dsimp only); (try k_fold)))
  k_with "tree" => ((show (_ : Nat) < _); simp only [putU, drU, exU])
  k_with "call ref" => (ktn_call (Str.ofString "tree_drop") drU; (rename TIn _ _ _ _ => ho9); (have hoh := ho9.handed))
  k_with "call ref" => (ktn_call (Str.ofString "tree_exact") exU; (rename OW _ _ => ho9); (have hoh := ho9.handed); (try rw [hex] at ho9))
  k_steps
  refine' HRet.of ?F ?N ?M ?A ?S ?W ?Z
  case F => k_asm
  case N => k_asm
  case S =>
    dsimp only [hled]
    kqd_sub
  case A => walk_at "my over"
  case M =>
    dsimp only [hnms]
    repeat' (first | exact List.forall_mem_nil _ | refine List.forall_mem_cons.mpr ⟨?_, ?_⟩ | rfl)
  case W => exact TIn.move (by assumption) (by walk_at "my move")
  case Z => exact TIn.move (by assumption) (by walk_at "my move")
end
section
local macro_rules | `(tactic| walk_at "no such key") => `(tactic| fail)
open PySem PySem.W PyProof.Rows
local macro_rules | `(tactic| walk_at "call ref") => `(tactic| walk_at "my b5")
local macro_rules | `(tactic| walk_at "binaryOp Mult int int") => `(tactic| (refine mul_bit ?_; intro tk9))
local macro_rules | `(tactic| walk_at "subscriptTail") => `(tactic| walk_at "my b4")
local macro_rules | `(tactic| walk_at "binaryOp Add ref ref") => `(tactic| ((with_reducible show wpAny _ _ (binaryOp _ (Value.ref _) (Value.ref _)) _ _ _); k_dflt (refine' add_rows ?F ?N ?a ?b ?z ?_; (case F => k_asm); (case N => k_asm); (case a => k_mem); (case b => k_mem); (case z => ((simp only [sizeLine_eq]); omega))); intro D' h' F' N' l1; (try k_lt l1)))
local macro_rules | `(tactic| walk_at "eval ListComp") => `(tactic| (k_dflt (refine comp3 (by k_asm) (by with_unfolding_all rfl) (by decide) (by rfl) (by decide) (by rfl) (by rfl) (by rfl) (by decide) (by decide) (by decide) ?_)))
local macro_rules | `(tactic| walk_at "RowSrc") => `(tactic| (refine Stop.go ?_))
set_option maxRecDepth 100000 in
set_option maxHeartbeats 8000000 in
theorem rows_turn (w : World) {pr loose mean mg mb} (fa L : Addr) (cd : Value) (base h₀ : Heap) (Bl : Below callerA base [] h₀) (X : (hd.heap_1 w.params).In h₀) (T : Top pr loose mean mg mb h₀)
    (b : Bool) (η : HO) (hη : η.Ok L b) (tS : PT) (vw vs : Value) (a1 a2 a3 b1 b2 b3 : Tok) (hd1 : handedIn vw = true) (h0 : TIn η.H η.gl vs tS) (l0 : tS.lens η.H) (c0 : tS.count ≤ 40) (ho : handedIn η.vo = true)
    (m : Str → Option Value) (s : Shared) (E : Value → Shared → Prop)
    (F : Fr h₀ L s.heap m) (hm : ∀ q ∈ hnms η, m q.1 = some q.2) (N : News h₀ L s.heap (hled w L η vw vs a1 a2 a3 b1 b2 b3))
    (vlo vhi : Value) (ra : Addr) (va : List Value) (na : Nat) (rs : List (List Bool × Int)) (hla : (ra, listOf va.toArray na) ∈ η.gl) (hra : RsIn (η.H + 1) η.gl va rs) (hlr : rs.length ≤ 50)
    (hhi : m (Str.ofString "high") = some (vhi))
    (hlo : m (Str.ofString "low") = some (vlo))
    (hrw : m (Str.ofString "rows") = some (.ref ra)) :
    wpAny (model Challenge.rw_sj0175_01.row.prog w) (callerA.deeper (envOfC (Str.ofString "law") lawScope L fa cd)) (execs rowsBody (envOfC (Str.ofString "law") lawScope L fa cd))
      (fun f s' => f = .next ∧ RMid w h₀ L η vw vs a1 a2 a3 b1 b2 b3 vlo vhi (rs ++ (rows tS).map (mvr b)) s s') E s := by
  revert X
  k_fill
  intro X
  k_with_none
  rw [← over_self (l := (Str.ofString "rows", .ref ra) :: (Str.ofString "low", vlo) :: (Str.ofString "high", vhi) :: hnms η) (List.forall_mem_cons.mpr ⟨hrw, List.forall_mem_cons.mpr ⟨hlo, List.forall_mem_cons.mpr ⟨hhi, hm⟩⟩⟩)] at F
  obtain ⟨H, ls, bx, dw, xw, ds, xs, do', xo, hv, y0, y1, ws, c', c'', c, oz, so, k, kt, tb, kv, vo, e1, e2, e3, gl⟩ := η
  obtain ⟨hH, o2, o3, o4, o5, p1, p2, p3, q1, q2, q3, n1, n2, n3, n4, hb, ⟨tz, hz⟩, ⟨ts, hs⟩, hgl⟩ := hη
  dsimp only [over, hnms, hled] at *
  have hd0 := h0.handed
  show wpAny _ _ (execs [_] _) _ _ _
  have dl0 := tS.depth_le
  have cn : tS.count ≤ 100 := by omega
  have Hal := al_u w pr loose mean mg mb
  k_with "call ref" => ((with_reducible show wpAny _ _ (call (Value.ref 126) _) _ _ _); (refine wpAny_call ?_); k_dflt (refine' code_def ?k1 ?k2 ?k3 ?k4 ?k5 ?kA ?kF ?kK ?k6 ?k7 ?k8 ?k9 ?kB ?_ ?c2 ?c3 ?c4 ?c5; (case kA => exact rfl); (case kF => exact rfl); (case kK => exact rfl); (case k1 => k_asm); (case k2 => k_asm); (case k3 => k_asm); (case k4 => k_asm); (case k5 => k_asm); (case k6 => k_is); (case k7 => k_is); (case k8 => ktr_room); (case k9 => exact BindsTo.of_eq rfl); (case c5 => decide); (case kB => exact locs rfl); (case c2 => exact rfl); (case c3 => exact rfl); (case c4 => exact rfl); k_whole; intro g' L' h' FG' F' N' B' X' T'; (try dsimp only); (try k_fold)))
  k_with "call ref" => ((with_reducible show wpAny _ _ (call (Value.ref 133) _) _ _ _); (refine wpAny_call ?_); k_dflt (refine' code_def ?k1 ?k2 ?k3 ?k4 ?k5 ?kA ?kF ?kK ?k6 ?k7 ?k8 ?k9 ?kB ?_ ?c2 ?c3 ?c4 ?c5; (case kA => exact rfl); (case kF => exact rfl); (case kK => exact rfl); (case k1 => k_asm); (case k2 => k_asm); (case k3 => k_asm); (case k4 => k_asm); (case k5 => k_asm); (case k6 => k_is); (case k7 => k_is); (case k8 => ktr_room); (case k9 => exact BindsTo.of_eq rfl); (case c5 => decide); (case kB => exact locs rfl); (case c2 => exact rfl); (case c3 => exact rfl); (case c4 => exact rfl); k_whole; intro g' L' h' FG' F' N' B' X' T'; (try dsimp only); (try k_fold)))
  k_with "tree" => ((show (_ : Nat) < _); simp only [alU])
  k_with "call ref" => (ktn_call (Str.ofString "tree_all") alU; (rename LsIn _ _ _ _ => ho9); (obtain ⟨hm9, hr9⟩ := ho9))
  k_steps
  refine Stop.on ?_
  have hlr9 := hr9.length
  have hlra := hra.length
  have hrl := rows_len tS
  refine' ⟨_, _, _, _, _, H, b, rfl, rfl, ?F, ?N, ?m, ?r, ?len, ?elt, ?fin⟩
  case F => k_asm
  case N => k_asm
  case m => exact hm9
  case r => exact hr9
  case len => omega
  case elt =>
    rename News h₀ _ _ _ => N0
    clear N0
    intro I C D oI oC oD m₂ hh tk Y p x t₁ t₂ t₃ E' hpx hC' hx1 hx2 hx3 F' N' up off ne
    have y1 : (L + 2, so) ∈ Y := up _ (by k_mem)
    have y2 : (L + 1, oz) ∈ Y := up _ (by k_mem)
    k_steps
    refine' EltEnd.of2 ?F ?N (by assumption) (by assumption) ?R
    case F => k_asm
    case N => k_asm
    case R => exact fin_some (by k_mem) (by k_mem) en_b len_s
  case fin =>
    intro D ys hh tk tl F' N' l1 l2 l3 hR
    have hly := hR.length
    rw [List.length_map] at hly
    have l2' := fun q hq p hp => l2 p hp q hq
    have lhv := l1 _ (by k_mem : (hv, listOf #[.ref y0, .ref y1] c'') ∈ _)
    k_steps
    refine' RMid.of (va := va ++ ys) (n := 0) ?F ?N ?M ?A ?S ?G hgl ?h1 ?h2 ?h3
    case F => k_asm
    case N => k_asm
    case M =>
      dsimp only [hnms, LH, List.cons_append, List.nil_append]
      repeat' (first | exact List.forall_mem_nil _ | refine List.forall_mem_cons.mpr ⟨?_, ?_⟩ | rfl)
    case A => walk_at "my over"
    case S =>
      dsimp only [hled]
      kqd_sub
    case G => kqd_sub
    case h1 => k_mem
    case h2 =>
      rename D < _ ∧ _ => lD
      exact Nat.lt_trans lhv lD.1
    case h3 => exact (hra.mono (by kqd_sub)).append (hR.mono (by kqd_sub))
end
section
open PySem PySem.W PyProof.Rows PySem.Spec
/-- the half b, as a deed on it sees the state -/
def etaOf (κ : KO) (σ : SO) : Bool → HO
  | false => ⟨κ.H, κ.ls, κ.bx, κ.dw, κ.xw, κ.d0, κ.x0, κ.d1, κ.x1, κ.hv, κ.x0, κ.x1, κ.ws, κ.c', κ.c'', σ.c, κ.oz, σ.so, σ.k, σ.kt, σ.tb, σ.kv, σ.v1, σ.e1, σ.e2, σ.e3, σ.gl⟩
  | true => ⟨κ.H, κ.ls, κ.bx, κ.dw, κ.xw, κ.d1, κ.x1, κ.d0, κ.x0, κ.hv, κ.x0, κ.x1, κ.ws, κ.c', κ.c'', σ.c, κ.oz, σ.so, σ.k, σ.kt, σ.tb, σ.kv, σ.v0, σ.b1, σ.b2, σ.b3, σ.gl⟩
def SO.hv (σ : SO) : Bool → Value
  | false => σ.v0
  | true => σ.v1
def SO.ht (σ : SO) : Bool → PT
  | false => σ.tl
  | true => σ.th
def SO.t1 (σ : SO) : Bool → Tok
  | false => σ.b1
  | true => σ.e1
def SO.t2 (σ : SO) : Bool → Tok
  | false => σ.b2
  | true => σ.e2
def SO.t3 (σ : SO) : Bool → Tok
  | false => σ.b3
  | true => σ.e3
/-- the state behind a deed on the half b -/
def SO.upd (σ : SO) (vw vs : Value) (tS : PT) (a1 a2 a3 b1 b2 b3 : Tok) (g : List (Addr × Obj)) : Bool → SO
  | false => { σ with vw := vw, v0 := vs, tl := tS, a1 := a1, a2 := a2, a3 := a3, b1 := b1, b2 := b2, b3 := b3, gl := g }
  | true => { σ with vw := vw, v1 := vs, th := tS, a1 := a1, a2 := a2, a3 := a3, e1 := b1, e2 := b2, e3 := b3, gl := g }
theorem eta_ok {κ : KO} {L : Addr} {σ : SO} {b : Bool} (hκ : κ.Ok L) (hs : ∃ t, σ.so.data = .cell (some (.int (if b then 1 else 0) t))) (hg : ∀ p ∈ σ.gl, @LT.lt Nat _ κ.hv p.1) : (etaOf κ σ b).Ok L b := by
  obtain ⟨hH, o2, o3, o4, o5, o6, o7, o8, o9, o10, hI, hlen, hz⟩ := hκ
  cases b
  · refine ⟨hH, o2, o3, o4, o5, o6, o7, ?_, ?_, o9, o10, ?_, ?_, ?_, ?_, rfl, ⟨_, hz⟩, hs, hg⟩ <;> dsimp only [etaOf]
    · exact Nat.lt_trans o8 (Nat.lt_trans o9 o10)
    · exact Nat.lt_trans o6 (Nat.lt_trans o7 o8)
    · exact Nat.ne_of_lt (Nat.lt_trans o7 o8)
    · exact Nat.ne_of_lt (Nat.lt_trans o7 (Nat.lt_trans o8 o9))
    · exact Nat.ne_of_lt o8
    · exact Nat.ne_of_lt (Nat.lt_trans o8 o9)
  · refine ⟨hH, o2, o3, o4, o5, ?_, o9, o10, o6, o7, ?_, ?_, ?_, ?_, ?_, rfl, ⟨_, hz⟩, hs, hg⟩ <;> dsimp only [etaOf]
    · exact Nat.lt_trans o6 (Nat.lt_trans o7 o8)
    · exact Nat.lt_trans o8 (Nat.lt_trans o9 o10)
    · exact (Nat.ne_of_lt (Nat.lt_trans o7 o8)).symm
    · exact (Nat.ne_of_lt o8).symm
    · exact (Nat.ne_of_lt (Nat.lt_trans o7 (Nat.lt_trans o8 o9))).symm
    · exact (Nat.ne_of_lt (Nat.lt_trans o8 o9)).symm
theorem eta_led {w : World} {L : Addr} {κ : KO} {σ : SO} {b : Bool} {vw vs : Value} {tS : PT} {a1 a2 a3 b1 b2 b3 : Tok} {g : List (Addr × Obj)} : ∀ p, p ∈ hled w L { etaOf κ σ b with gl := g } vw vs a1 a2 a3 b1 b2 b3 ↔ p ∈ led w L κ (σ.upd vw vs tS a1 a2 a3 b1 b2 b3 g b) := by
  intro p
  cases b
  · exact Iff.rfl
  · exact List.Perm.mem_iff (.cons _ (.cons _ (.cons _ (.trans (.swap _ _ _) (.cons _ (.cons _ (.cons _ (.cons _ (.cons _ (.swap _ _ _))))))))))
theorem eta_news {w : World} {L : Addr} {κ : KO} {σ : SO} {b : Bool} {h₀ h : Heap} (N : News h₀ L h (led w L κ σ)) : News h₀ L h (hled w L (etaOf κ σ b) σ.vw (σ.hv b) σ.a1 σ.a2 σ.a3 (σ.t1 b) (σ.t2 b) (σ.t3 b)) := by
  intro p hp
  refine N p ?_
  cases b
  · exact hp
  · exact (eta_led (b := true) (tS := σ.th) p).mp hp
end
section
open PySem PySem.W PyProof.Rows PySem.Spec
theorem up_nil {w : World} {L : Addr} {κ : KO} {σ : SO} {b : Bool} {vw vs : Value} {tS : PT} {a1 a2 a3 b1 b2 b3 : Tok} {p : Addr × Obj} (h : p ∈ led w L κ { σ.upd vw vs tS a1 a2 a3 b1 b2 b3 σ.gl b with gl := [] }) : p ∈ led w L κ (σ.upd vw vs tS a1 a2 a3 b1 b2 b3 σ.gl b) := by
  cases b
  · exact List.Sublist.subset (show List.Sublist (led w L κ { σ.upd vw vs tS a1 a2 a3 b1 b2 b3 σ.gl false with gl := [] }) (led w L κ (σ.upd vw vs tS a1 a2 a3 b1 b2 b3 σ.gl false)) from .cons₂ _ (.cons₂ _ (.cons₂ _ (.cons₂ _ (.cons₂ _ (.cons₂ _ (.cons₂ _ (.cons₂ _ (.cons₂ _ (.cons₂ _ (.cons₂ _ (List.nil_sublist _)))))))))))) h
  · exact List.Sublist.subset (show List.Sublist (led w L κ { σ.upd vw vs tS a1 a2 a3 b1 b2 b3 σ.gl true with gl := [] }) (led w L κ (σ.upd vw vs tS a1 a2 a3 b1 b2 b3 σ.gl true)) from .cons₂ _ (.cons₂ _ (.cons₂ _ (.cons₂ _ (.cons₂ _ (.cons₂ _ (.cons₂ _ (.cons₂ _ (.cons₂ _ (.cons₂ _ (.cons₂ _ (List.nil_sublist _)))))))))))) h
theorem put_turn (w : World) {pr loose mean mg mb} (fa L : Addr) (cd : Value) (base h₀ : Heap) (Bl : Below callerA base [] h₀) (X : (hd.heap_1 w.params).In h₀) (T : Top pr loose mean mg mb h₀)
    (κ : KO) (hκ : κ.Ok L) (n K : Nat) (hn : n ≤ 8) (hK : K ≤ 40) (σ : SO) (hσ : σ.Ok κ n K) (m : Str → Option Value) (s : Shared) (E : Value → Shared → Prop)
    (F : Fr h₀ L s.heap m) (hm : ∀ q ∈ nms κ σ, m q.1 = some q.2) (N : News h₀ L s.heap (led w L κ σ))
    (b : Bool) (p : List Bool) (hp : p.length ≤ κ.H) (fo : Int) (tr tl9 tp ts : Tok) (hfo : fo < 5) (hs : σ.so.data = .cell (some (.int (if b then 1 else 0) ts)))
    (hf : m (Str.ofString "form") = some (.int fo tr)) (hln : m (Str.ofString "length") = some (.int (p.length : Int) tl9)) (hsp : m (Str.ofString "spot") = some (.int (en κ.H p) tp)) :
    wpAny (model Challenge.rw_sj0175_01.row.prog w) (callerA.deeper (envOfC (Str.ofString "law") lawScope L fa cd)) (exec pdStmt (envOfC (Str.ofString "law") lawScope L fa cd))
      (fun f s' => f = .next ∧ TurnSt w κ σ.gl h₀ L (n + 1) K NoX s s') E s := by
  obtain ⟨⟨hk0, hk1, hkv, hl0, hl1, hc0, hc1, h0, h1, hw, hso⟩, hgl⟩ := hσ
  have jd2 := joined_depth (k := σ.known) hl0 hl1 (by omega : σ.tl.count ≤ 16) (by omega : σ.th.count ≤ 16)
  cases b
  · refine wpAny_mono (put_half w fa L cd base h₀ Bl X T false (etaOf κ σ false) (eta_ok hκ ⟨_, hs⟩ hgl) (joined σ.tl σ.th σ.known) σ.tl p hp σ.vw σ.v0 σ.a1 σ.a2 σ.a3 σ.b1 σ.b2 σ.b3 hw h0 (joined_lens hl0 hl1) hl0 jd2 (Nat.le_trans σ.tl.depth_le (by omega)) h1.handed m s E F hm (eta_news (b := false) N) fo tr tl9 tp hfo hf hln hsp) (fun f s' h => ?_) fun _ _ e => e
    obtain ⟨hf9, hr⟩ := h
    refine ⟨hf9, ?_⟩
    obtain ⟨h', tk', m', X', vw, vs, a1, a2, a3, b1, b2, b3, rfl, F', hm', N', hX, hs', h1', h2⟩ := hr
    have hgX : ∀ z ∈ σ.gl, z ∈ X' := fun z hz => hs' z (by simp only [hled, List.mem_cons]; exact .inr (.inr (.inr (.inr (.inr (.inr (.inr (.inr (.inr (.inr (.inr hz)))))))))))
    have pc := put_count σ.tl p (some (fo + 1))
    refine TurnSt.fin (σ.upd vw vs (put σ.tl p (some (fo + 1))) a1 a2 a3 b1 b2 b3 σ.gl false) [] F' N' hX (fun z hz => hs' z ((eta_led (σ := σ) (b := false) (tS := (put σ.tl p (some (fo + 1)))) z).mpr ?_)) hm' ⟨hk0, hk1, hkv, (put_lens σ.tl p _ hl0 hp), hl1, ?_, ?_, h2, TIn.mono h1 hgX, ?_, hso⟩ (fun _ => rfl) hgX hgl
    · exact up_nil hz
    · dsimp only [SO.upd]; omega
    · dsimp only [SO.upd]; omega
    · exact (put_side0 _ _ _ _ _) ▸ h1'
  · refine wpAny_mono (put_half w fa L cd base h₀ Bl X T true (etaOf κ σ true) (eta_ok hκ ⟨_, hs⟩ hgl) (joined σ.tl σ.th σ.known) σ.th p hp σ.vw σ.v1 σ.a1 σ.a2 σ.a3 σ.e1 σ.e2 σ.e3 hw h1 (joined_lens hl0 hl1) hl1 jd2 (Nat.le_trans σ.th.depth_le (by omega)) h0.handed m s E F hm (eta_news (b := true) N) fo tr tl9 tp hfo hf hln hsp) (fun f s' h => ?_) fun _ _ e => e
    obtain ⟨hf9, hr⟩ := h
    refine ⟨hf9, ?_⟩
    obtain ⟨h', tk', m', X', vw, vs, a1, a2, a3, b1, b2, b3, rfl, F', hm', N', hX, hs', h1', h2⟩ := hr
    have hgX : ∀ z ∈ σ.gl, z ∈ X' := fun z hz => hs' z (by simp only [hled, List.mem_cons]; exact .inr (.inr (.inr (.inr (.inr (.inr (.inr (.inr (.inr (.inr (.inr hz)))))))))))
    have pc := put_count σ.th p (some (fo + 1))
    refine TurnSt.fin (σ.upd vw vs (put σ.th p (some (fo + 1))) a1 a2 a3 b1 b2 b3 σ.gl true) [] F' N' hX (fun z hz => hs' z ((eta_led (σ := σ) (b := true) (tS := (put σ.th p (some (fo + 1)))) z).mpr ?_)) hm' ⟨hk0, hk1, hkv, hl0, (put_lens σ.th p _ hl1 hp), ?_, ?_, TIn.mono h0 hgX, h2, ?_, hso⟩ (fun _ => rfl) hgX hgl
    · exact up_nil hz
    · dsimp only [SO.upd]; omega
    · dsimp only [SO.upd]; omega
    · exact (put_side1 _ _ _ _ _) ▸ h1'
theorem drop_turn2 (w : World) {pr loose mean mg mb} (fa L : Addr) (cd : Value) (base h₀ : Heap) (Bl : Below callerA base [] h₀) (X : (hd.heap_1 w.params).In h₀) (T : Top pr loose mean mg mb h₀)
    (κ : KO) (hκ : κ.Ok L) (n K : Nat) (hn : n ≤ 8) (hK : K ≤ 40) (σ : SO) (hσ : σ.Ok κ n K) (m : Str → Option Value) (s : Shared) (E : Value → Shared → Prop)
    (F : Fr h₀ L s.heap m) (hm : ∀ q ∈ nms κ σ, m q.1 = some q.2) (N : News h₀ L s.heap (led w L κ σ))
    (b : Bool) (p : List Bool) (hp : p.length ≤ κ.H) (tl9 tp ts : Tok) (hs : σ.so.data = .cell (some (.int (if b then 1 else 0) ts)))
    (hln : m (Str.ofString "length") = some (.int (p.length : Int) tl9)) (hsp : m (Str.ofString "spot") = some (.int (en κ.H p) tp)) :
    wpAny (model Challenge.rw_sj0175_01.row.prog w) (callerA.deeper (envOfC (Str.ofString "law") lawScope L fa cd)) (execs (dropBody.drop 2) (envOfC (Str.ofString "law") lawScope L fa cd))
      (fun f s' => f = .next ∧ TurnSt w κ σ.gl h₀ L (n + 1) K NoX s s') E s := by
  obtain ⟨⟨hk0, hk1, hkv, hl0, hl1, hc0, hc1, h0, h1, hw, hso⟩, hgl⟩ := hσ
  have jd2 := joined_depth (k := σ.known) hl0 hl1 (by omega : σ.tl.count ≤ 16) (by omega : σ.th.count ≤ 16)
  cases b
  · refine wpAny_mono (drop_half w fa L cd base h₀ Bl X T false (etaOf κ σ false) (eta_ok hκ ⟨_, hs⟩ hgl) (joined σ.tl σ.th σ.known) σ.tl p hp σ.vw σ.v0 σ.a1 σ.a2 σ.a3 σ.b1 σ.b2 σ.b3 hw h0 (joined_lens hl0 hl1) hl0 jd2 (Nat.le_trans σ.tl.depth_le (by omega)) h1.handed m s E F hm (eta_news (b := false) N) (exact_side0 _ _ _ _) tl9 tp hln hsp) (fun f s' h => ?_) fun _ _ e => e
    obtain ⟨hf9, hr⟩ := h
    refine ⟨hf9, ?_⟩
    obtain ⟨h', tk', m', X', vw, vs, a1, a2, a3, b1, b2, b3, rfl, F', hm', N', hX, hs', h1', h2⟩ := hr
    have hgX : ∀ z ∈ σ.gl, z ∈ X' := fun z hz => hs' z (by simp only [hled, List.mem_cons]; exact .inr (.inr (.inr (.inr (.inr (.inr (.inr (.inr (.inr (.inr (.inr hz)))))))))))
    have pc := drop_count σ.tl p
    refine TurnSt.fin (σ.upd vw vs (drop σ.tl p) a1 a2 a3 b1 b2 b3 σ.gl false) [] F' N' hX (fun z hz => hs' z ((eta_led (σ := σ) (b := false) (tS := (drop σ.tl p)) z).mpr ?_)) hm' ⟨hk0, hk1, hkv, (drop_lens σ.tl p hl0), hl1, ?_, ?_, h2, TIn.mono h1 hgX, ?_, hso⟩ (fun _ => rfl) hgX hgl
    · exact up_nil hz
    · dsimp only [SO.upd]; omega
    · dsimp only [SO.upd]; omega
    · exact (drop_side0 _ _ _ _) ▸ h1'
  · refine wpAny_mono (drop_half w fa L cd base h₀ Bl X T true (etaOf κ σ true) (eta_ok hκ ⟨_, hs⟩ hgl) (joined σ.tl σ.th σ.known) σ.th p hp σ.vw σ.v1 σ.a1 σ.a2 σ.a3 σ.e1 σ.e2 σ.e3 hw h1 (joined_lens hl0 hl1) hl1 jd2 (Nat.le_trans σ.th.depth_le (by omega)) h0.handed m s E F hm (eta_news (b := true) N) (exact_side1 _ _ _ _) tl9 tp hln hsp) (fun f s' h => ?_) fun _ _ e => e
    obtain ⟨hf9, hr⟩ := h
    refine ⟨hf9, ?_⟩
    obtain ⟨h', tk', m', X', vw, vs, a1, a2, a3, b1, b2, b3, rfl, F', hm', N', hX, hs', h1', h2⟩ := hr
    have hgX : ∀ z ∈ σ.gl, z ∈ X' := fun z hz => hs' z (by simp only [hled, List.mem_cons]; exact .inr (.inr (.inr (.inr (.inr (.inr (.inr (.inr (.inr (.inr (.inr hz)))))))))))
    have pc := drop_count σ.th p
    refine TurnSt.fin (σ.upd vw vs (drop σ.th p) a1 a2 a3 b1 b2 b3 σ.gl true) [] F' N' hX (fun z hz => hs' z ((eta_led (σ := σ) (b := true) (tS := (drop σ.th p)) z).mpr ?_)) hm' ⟨hk0, hk1, hkv, hl0, (drop_lens σ.th p hl1), ?_, ?_, TIn.mono h0 hgX, h2, ?_, hso⟩ (fun _ => rfl) hgX hgl
    · exact up_nil hz
    · dsimp only [SO.upd]; omega
    · dsimp only [SO.upd]; omega
    · exact (drop_side1 _ _ _ _) ▸ h1'
theorem drop_turn (w : World) {pr loose mean mg mb} (fa L : Addr) (cd : Value) (base h₀ : Heap) (Bl : Below callerA base [] h₀) (X : (hd.heap_1 w.params).In h₀) (T : Top pr loose mean mg mb h₀)
    (κ : KO) (hκ : κ.Ok L) (n K : Nat) (hn : n ≤ 8) (hK : K ≤ 40) (σ : SO) (hσ : σ.Ok κ n K) (m : Str → Option Value) (s : Shared) (E : Value → Shared → Prop)
    (F : Fr h₀ L s.heap m) (hm : ∀ q ∈ nms κ σ, m q.1 = some q.2) (N : News h₀ L s.heap (led w L κ σ))
    (b : Bool) (p : List Bool) (hp : p.length ≤ κ.H) (fo : Int) (tr tl9 tp ts : Tok) (hs : σ.so.data = .cell (some (.int (if b then 1 else 0) ts)))
    (hf : m (Str.ofString "form") = some (.int fo tr)) (hln : m (Str.ofString "length") = some (.int (p.length : Int) tl9)) (hsp : m (Str.ofString "spot") = some (.int (en κ.H p) tp)) :
    wpAny (model Challenge.rw_sj0175_01.row.prog w) (callerA.deeper (envOfC (Str.ofString "law") lawScope L fa cd)) (execs dropBody (envOfC (Str.ofString "law") lawScope L fa cd))
      (fun f s' => f = .next ∧ TurnSt w κ σ.gl h₀ L (n + 1) K NoX s s') E s := by
  have hσ' := hσ
  obtain ⟨⟨hk0, hk1, hkv, hl0, hl1, hc0, hc1, h0, h1, hw, hso⟩, hgl⟩ := hσ
  have jd2 := joined_depth (k := σ.known) hl0 hl1 (by omega : σ.tl.count ≤ 16) (by omega : σ.th.count ≤ 16)
  show wpAny _ _ (execs (dropBody.take 2 ++ dropBody.drop 2) _) _ _ _
  cases b
  · refine execs_mid (HMid w h₀ L (etaOf κ σ false) σ.vw σ.v0 σ.a1 σ.a2 σ.a3 σ.b1 σ.b2 σ.b3 s) (rows_half w fa L cd base h₀ Bl X T false (etaOf κ σ false) (eta_ok hκ ⟨_, hs⟩ hgl) (joined σ.tl σ.th σ.known) σ.tl p hp σ.vw σ.v0 σ.a1 σ.a2 σ.a3 σ.b1 σ.b2 σ.b3 hw h0 (joined_lens hl0 hl1) hl0 jd2 (Nat.le_trans σ.tl.depth_le (by omega)) h1.handed m s E F hm (eta_news (b := false) N) (by omega) fo tr tl9 tp hf hln hsp) fun s2 h2 => ?_
    obtain ⟨hh2, tk2, m2, g2, p2, ts2, tl2, rfl, F2, hm2, N2, hg2, hgl2, hp2⟩ := h2
    have hm3 := List.forall_mem_cons.mp hm2
    have hm4 := List.forall_mem_cons.mp hm3.2
    refine wpAny_mono (drop_turn2 w fa L cd base h₀ Bl X T κ hκ n K hn hK { σ with gl := g2 } ⟨⟨hk0, hk1, hkv, hl0, hl1, hc0, hc1, h0.mono hg2, h1.mono hg2, hw.mono hg2, hso⟩, hgl2⟩ m2 { s with heap := hh2, toks := tk2 } E F2 hm4.2 (fun z hz => N2 z (hz)) false p2 hp2 tl2 ts2 ts hs hm4.1 hm3.1) (fun f s' h => ⟨h.1, ?_⟩) fun _ _ e => e
    obtain ⟨h', tk, m', σ', x, rfl, F', hm', N', ok, hr, hg⟩ := h.2
    exact ⟨h', tk, m', σ', x, rfl, F', hm', N', ok, hr, fun z hz => hg z (hg2 z hz)⟩
  · refine execs_mid (HMid w h₀ L (etaOf κ σ true) σ.vw σ.v1 σ.a1 σ.a2 σ.a3 σ.e1 σ.e2 σ.e3 s) (rows_half w fa L cd base h₀ Bl X T true (etaOf κ σ true) (eta_ok hκ ⟨_, hs⟩ hgl) (joined σ.tl σ.th σ.known) σ.th p hp σ.vw σ.v1 σ.a1 σ.a2 σ.a3 σ.e1 σ.e2 σ.e3 hw h1 (joined_lens hl0 hl1) hl1 jd2 (Nat.le_trans σ.th.depth_le (by omega)) h0.handed m s E F hm (eta_news (b := true) N) (by omega) fo tr tl9 tp hf hln hsp) fun s2 h2 => ?_
    obtain ⟨hh2, tk2, m2, g2, p2, ts2, tl2, rfl, F2, hm2, N2, hg2, hgl2, hp2⟩ := h2
    have hm3 := List.forall_mem_cons.mp hm2
    have hm4 := List.forall_mem_cons.mp hm3.2
    refine wpAny_mono (drop_turn2 w fa L cd base h₀ Bl X T κ hκ n K hn hK { σ with gl := g2 } ⟨⟨hk0, hk1, hkv, hl0, hl1, hc0, hc1, h0.mono hg2, h1.mono hg2, hw.mono hg2, hso⟩, hgl2⟩ m2 { s with heap := hh2, toks := tk2 } E F2 hm4.2 (fun z hz => N2 z ((eta_led (σ := { σ with gl := g2 }) (b := true) (tS := σ.th) z).mpr hz)) true p2 hp2 tl2 ts2 ts hs hm4.1 hm3.1) (fun f s' h => ⟨h.1, ?_⟩) fun _ _ e => e
    obtain ⟨h', tk, m', σ', x, rfl, F', hm', N', ok, hr, hg⟩ := h.2
    exact ⟨h', tk, m', σ', x, rfl, F', hm', N', ok, hr, fun z hz => hg z (hg2 z hz)⟩
end
local macro_rules | `(tactic| walk_at "my b6") => `(tactic| (refine' PutRel.mk' (p := []) ?x1 ?x2 ?x3 ?x4 ?x5; (case x1 => walk_at "my mono"); (case x2 => k_mem); (case x3 => exact (en_nil _).symm); (case x4 => rfl); (case x5 => first | assumption | exact OW.some _ _)))
local macro_rules | `(tactic| walk_at "my b7") => `(tactic| (refine' DrRel.mk' (p := []) ?x1 ?x2 ?x3 ?x4; (case x1 => walk_at "my mono"); (case x2 => k_mem); (case x3 => exact (en_nil _).symm); (case x4 => rfl)))
section
open PySem PySem.W PyProof.Rows
local macro_rules | `(tactic| ktr_rel) => `(tactic| walk_at "my b6")
local macro_rules | `(tactic| ktr_rel) => `(tactic| walk_at "my b7")
set_option maxRecDepth 100000 in
set_option maxHeartbeats 8000000 in
theorem if_known0 (w : World) {pr loose mean mg mb} (fa L : Addr) (cd : Value) (base h₀ : Heap) (Bl : Below callerA base [] h₀) (X : (hd.heap_1 w.params).In h₀) (T : Top pr loose mean mg mb h₀)
    (κ : KO) (hκ : κ.Ok L) (n K : Nat) (hn : n ≤ 8) (hK : K ≤ 40) (σ : SO) (hσ : σ.Ok κ n K) (m : Str → Option Value) (s : Shared) (E : Value → Shared → Prop)
    (F : Fr h₀ L s.heap m) (hm : ∀ q ∈ nms κ σ, m q.1 = some q.2) (N : News h₀ L s.heap (led w L κ σ))
    (hk : σ.known = none)
    (i : Nat) (ti tr : Tok)
    (ht : m (Str.ofString "turn") = some (.int (i : Int) ti))
    (hf : m (Str.ofString "form") = some (.int 7 tr)) :
    wpAny (model Challenge.rw_sj0175_01.row.prog w) (callerA.deeper (envOfC (Str.ofString "law") lawScope L fa cd)) (exec ifStmt (envOfC (Str.ofString "law") lawScope L fa cd))
      (fun f s' => f = .next ∧ TurnSt w κ σ.gl h₀ L n K NoX s s') E s := by
  revert X
  k_fill
  intro X
  k_with_none
  k_with "call ref" => (walk_at "my b5")
  rw [← over_self (l := (Str.ofString "form", .int 7 tr) :: (Str.ofString "turn", .int (i : Int) ti) :: nms κ σ) (List.forall_mem_cons.mpr ⟨hf, List.forall_mem_cons.mpr ⟨ht, hm⟩⟩)] at F
  obtain ⟨H, ls, bx, dw, xw, d0, x0, d1, x1, hv, ws, ns, c', c'', oz, tz⟩ := κ
  obtain ⟨hH, o2, o3, o4, o5, o6, o7, o8, o9, o10, hI, hlen, hz⟩ := hκ
  obtain ⟨k, kt, tb, c, so, known, kv, vw, v0, v1, tl, th, gl, a1, a2, a3, b1, b2, b3, e1, e2, e3⟩ := σ
  obtain ⟨⟨hk0, hk1, hkv, hl0, hl1, hc0, hc1, h0, h1, hw, sv, hso⟩, hgl⟩ := hσ
  dsimp only [over, nms, led] at *
  show wpAny _ _ (exec (.If _ _ _ _) _) _ _ _
  have hdw := hw.handed
  have jl := joined_lens (k := known) hl0 hl1
  have jd2 := joined_depth (k := known) hl0 hl1 (by omega : tl.count ≤ 16) (by omega : th.count ≤ 16)
  have Hpu := put_tells (H + 1) w (pr := pr) (loose := loose) (mean := mean) (mg := mg) (mb := mb)
  have Hdr := dr_tells (H + 1) w (pr := pr) (loose := loose) (mean := mean) (mg := mg) (mb := mb)
  have Hex := ex_tells (H + 1) w (pr := pr) (loose := loose) (mean := mean) (mg := mg) (mb := mb)
  k_with "call ref" => ((with_reducible show wpAny _ _ (call (Value.ref 126) _) _ _ _); (refine wpAny_call ?_); k_dflt (refine' code_def ?k1 ?k2 ?k3 ?k4 ?k5 ?kA ?kF ?kK ?k6 ?k7 ?k8 ?k9 ?kB ?_ ?c2 ?c3 ?c4 ?c5; (case kA => exact rfl); (case kF => exact rfl); (case kK => exact rfl); (case k1 => k_asm); (case k2 => k_asm); (case k3 => k_asm); (case k4 => k_asm); (case k5 => k_asm); (case k6 => k_is); (case k7 => k_is); (case k8 => ktr_room); (case k9 => exact BindsTo.of_eq rfl); (case c5 => decide); (case kB => exact locs rfl); (case c2 => exact rfl); (case c3 => exact rfl); (case c4 => exact rfl); k_whole; intro g' L' h' FG' F' N' B' X' T'; (try dsimp only); (try k_fold)))
  k_with "call ref" => ((with_reducible show wpAny _ _ (call (Value.ref 133) _) _ _ _); (refine wpAny_call ?_); k_dflt (refine' code_def ?k1 ?k2 ?k3 ?k4 ?k5 ?kA ?kF ?kK ?k6 ?k7 ?k8 ?k9 ?kB ?_ ?c2 ?c3 ?c4 ?c5; (case kA => exact rfl); (case kF => exact rfl); (case kK => exact rfl); (case k1 => k_asm); (case k2 => k_asm); (case k3 => k_asm); (case k4 => k_asm); (case k5 => k_asm); (case k6 => k_is); (case k7 => k_is); (case k8 => ktr_room); (case k9 => exact BindsTo.of_eq rfl); (case c5 => decide); (case kB => exact locs rfl); (case c2 => exact rfl); (case c3 => exact rfl); (case c4 => exact rfl); k_whole; intro g' L' h' FG' F' N' B' X' T'; (try dsimp only); (try k_fold)))
  k_with "tree" => ((show (_ : Nat) < _); simp only [putC, drC, exC])
  k_with "call ref" => (ktn_call (Str.ofString "tree_put") (putC (H + 1)); (rename TIn _ _ _ _ => ho9); (have hoh := ho9.handed))
  k_with "call ref" => (ktn_call (Str.ofString "tree_drop") (drC (H + 1)); (rename TIn _ _ _ _ => ho9); (have hoh := ho9.handed))
  subst hk
  cases hkv
  · k_steps
    refine' TurnSt.fin ⟨_, _, tb, _, _, some (10 + (i : Int)), _, _, _, _, tl, th, gl, _, _, _, _, _, _, _, _, _⟩ [] ?F ?N ?A ?S ?M ?O ?R ?G hgl
    case F => k_asm
    case N => k_asm
    case S =>
      dsimp only [led]
      kqd_sub
    case A => walk_at "my over"
    case M =>
      dsimp only [nms, List.cons_append, List.nil_append]
      repeat' (first | exact List.forall_mem_nil _ | refine List.forall_mem_cons.mpr ⟨?_, ?_⟩ | rfl)
    case G => kqd_sub
    case R => (intro g9; exact rfl)
    case O =>
      dsimp only
      refine ⟨?p1, ?p2, ?p3, hl0, hl1, ?p4, ?p5, ?p6, ?p7, ?p8, ⟨_, hso⟩⟩
      case p1 => dsimp only; omega
      case p2 => dsimp only; omega
      case p3 => exact OW.some _ _
      case p4 => dsimp only; omega
      case p5 => dsimp only; omega
      case p6 => exact TIn.mono h0 (by kqd_sub)
      case p7 => exact TIn.mono h1 (by kqd_sub)
      case p8 => (rw [← put_all tl th none (10 + (i : Int))]; exact TIn.move ho9 (by walk_at "my move"))
end
section
open PySem PySem.W PyProof.Rows
local macro_rules | `(tactic| ktr_rel) => `(tactic| walk_at "my b6")
local macro_rules | `(tactic| ktr_rel) => `(tactic| walk_at "my b7")
set_option maxRecDepth 100000 in
set_option maxHeartbeats 8000000 in
theorem if_known1 (w : World) {pr loose mean mg mb} (fa L : Addr) (cd : Value) (base h₀ : Heap) (Bl : Below callerA base [] h₀) (X : (hd.heap_1 w.params).In h₀) (T : Top pr loose mean mg mb h₀)
    (κ : KO) (hκ : κ.Ok L) (n K : Nat) (hn : n ≤ 8) (hK : K ≤ 40) (σ : SO) (hσ : σ.Ok κ n K) (m : Str → Option Value) (s : Shared) (E : Value → Shared → Prop)
    (F : Fr h₀ L s.heap m) (hm : ∀ q ∈ nms κ σ, m q.1 = some q.2) (N : News h₀ L s.heap (led w L κ σ))
    (xk : Int) (hk : σ.known = some xk)
    (i : Nat) (ti tr : Tok)
    (ht : m (Str.ofString "turn") = some (.int (i : Int) ti))
    (hf : m (Str.ofString "form") = some (.int 7 tr)) :
    wpAny (model Challenge.rw_sj0175_01.row.prog w) (callerA.deeper (envOfC (Str.ofString "law") lawScope L fa cd)) (exec ifStmt (envOfC (Str.ofString "law") lawScope L fa cd))
      (fun f s' => f = .next ∧ TurnSt w κ σ.gl h₀ L n K NoX s s') E s := by
  revert X
  k_fill
  intro X
  k_with_none
  k_with "call ref" => (walk_at "my b5")
  rw [← over_self (l := (Str.ofString "form", .int 7 tr) :: (Str.ofString "turn", .int (i : Int) ti) :: nms κ σ) (List.forall_mem_cons.mpr ⟨hf, List.forall_mem_cons.mpr ⟨ht, hm⟩⟩)] at F
  obtain ⟨H, ls, bx, dw, xw, d0, x0, d1, x1, hv, ws, ns, c', c'', oz, tz⟩ := κ
  obtain ⟨hH, o2, o3, o4, o5, o6, o7, o8, o9, o10, hI, hlen, hz⟩ := hκ
  obtain ⟨k, kt, tb, c, so, known, kv, vw, v0, v1, tl, th, gl, a1, a2, a3, b1, b2, b3, e1, e2, e3⟩ := σ
  obtain ⟨⟨hk0, hk1, hkv, hl0, hl1, hc0, hc1, h0, h1, hw, sv, hso⟩, hgl⟩ := hσ
  dsimp only [over, nms, led] at *
  show wpAny _ _ (exec (.If _ _ _ _) _) _ _ _
  have hdw := hw.handed
  have jl := joined_lens (k := known) hl0 hl1
  have jd2 := joined_depth (k := known) hl0 hl1 (by omega : tl.count ≤ 16) (by omega : th.count ≤ 16)
  have Hpu := put_tells (H + 1) w (pr := pr) (loose := loose) (mean := mean) (mg := mg) (mb := mb)
  have Hdr := dr_tells (H + 1) w (pr := pr) (loose := loose) (mean := mean) (mg := mg) (mb := mb)
  have Hex := ex_tells (H + 1) w (pr := pr) (loose := loose) (mean := mean) (mg := mg) (mb := mb)
  k_with "call ref" => ((with_reducible show wpAny _ _ (call (Value.ref 126) _) _ _ _); (refine wpAny_call ?_); k_dflt (refine' code_def ?k1 ?k2 ?k3 ?k4 ?k5 ?kA ?kF ?kK ?k6 ?k7 ?k8 ?k9 ?kB ?_ ?c2 ?c3 ?c4 ?c5; (case kA => exact rfl); (case kF => exact rfl); (case kK => exact rfl); (case k1 => k_asm); (case k2 => k_asm); (case k3 => k_asm); (case k4 => k_asm); (case k5 => k_asm); (case k6 => k_is); (case k7 => k_is); (case k8 => ktr_room); (case k9 => exact BindsTo.of_eq rfl); (case c5 => decide); (case kB => exact locs rfl); (case c2 => exact rfl); (case c3 => exact rfl); (case c4 => exact rfl); k_whole; intro g' L' h' FG' F' N' B' X' T'; (try dsimp only); (try k_fold)))
  k_with "call ref" => ((with_reducible show wpAny _ _ (call (Value.ref 133) _) _ _ _); (refine wpAny_call ?_); k_dflt (refine' code_def ?k1 ?k2 ?k3 ?k4 ?k5 ?kA ?kF ?kK ?k6 ?k7 ?k8 ?k9 ?kB ?_ ?c2 ?c3 ?c4 ?c5; (case kA => exact rfl); (case kF => exact rfl); (case kK => exact rfl); (case k1 => k_asm); (case k2 => k_asm); (case k3 => k_asm); (case k4 => k_asm); (case k5 => k_asm); (case k6 => k_is); (case k7 => k_is); (case k8 => ktr_room); (case k9 => exact BindsTo.of_eq rfl); (case c5 => decide); (case kB => exact locs rfl); (case c2 => exact rfl); (case c3 => exact rfl); (case c4 => exact rfl); k_whole; intro g' L' h' FG' F' N' B' X' T'; (try dsimp only); (try k_fold)))
  k_with "tree" => ((show (_ : Nat) < _); simp only [putC, drC, exC])
  k_with "call ref" => (ktn_call (Str.ofString "tree_put") (putC (H + 1)); (rename TIn _ _ _ _ => ho9); (have hoh := ho9.handed))
  k_with "call ref" => (ktn_call (Str.ofString "tree_drop") (drC (H + 1)); (rename TIn _ _ _ _ => ho9); (have hoh := ho9.handed))
  k_with "call ref" => (ktn_call (Str.ofString "tree_exact") (exC (H + 1)); (rename OW _ _ => ho9); rw [exact_all] at ho9; cases ho9)
  subst hk
  cases hkv
  · k_steps
    refine' TurnSt.fin ⟨_, _, tb, _, _, none, _, _, _, _, tl, th, gl, _, _, _, _, _, _, _, _, _⟩ [] ?F ?N ?A ?S ?M ?O ?R ?G hgl
    case F => k_asm
    case N => k_asm
    case S =>
      dsimp only [led]
      kqd_sub
    case A => walk_at "my over"
    case M =>
      dsimp only [nms, List.cons_append, List.nil_append]
      repeat' (first | exact List.forall_mem_nil _ | refine List.forall_mem_cons.mpr ⟨?_, ?_⟩ | rfl)
    case G => kqd_sub
    case R => (intro g9; exact rfl)
    case O =>
      dsimp only
      refine ⟨?p1, ?p2, ?p3, hl0, hl1, ?p4, ?p5, ?p6, ?p7, ?p8, ⟨_, hso⟩⟩
      case p1 => dsimp only; omega
      case p2 => dsimp only; omega
      case p3 => exact OW.none
      case p4 => dsimp only; omega
      case p5 => dsimp only; omega
      case p6 => exact TIn.mono h0 (by kqd_sub)
      case p7 => exact TIn.mono h1 (by kqd_sub)
      case p8 => (rw [← drop_all tl th xk]; exact TIn.move ho9 (by walk_at "my move"))
end
section
open PySem PySem.W PyProof.Rows
local macro_rules | `(tactic| walk_at "call ref") => `(tactic| walk_at "my b5")
local macro_rules | `(tactic| walk_at "binaryOp Pow int int") => `(tactic| (refine pow2_small (by omega) (by omega) ?_; intro z9 tk9 hz9 hz9a hz9b))
local macro_rules | `(tactic| walk_at "binaryOp Mult int int") => `(tactic| (refine mul_small (by omega) (by omega) ?_; intro z9 tk9 hz9))
set_option maxRecDepth 100000 in
set_option maxHeartbeats 8000000 in
theorem else_head (w : World) {pr loose mean mg mb} (fa L : Addr) (cd : Value) (base h₀ : Heap) (Bl : Below callerA base [] h₀) (X : (hd.heap_1 w.params).In h₀) (T : Top pr loose mean mg mb h₀)
    (κ : KO) (hκ : κ.Ok L) (n K : Nat) (hn : n ≤ 8) (hK : K ≤ 40) (σ : SO) (hσ : σ.Ok κ n K) (m : Str → Option Value) (s : Shared) (E : Value → Shared → Prop)
    (F : Fr h₀ L s.heap m) (hm : ∀ q ∈ nms κ σ, m q.1 = some q.2) (N : News h₀ L s.heap (led w L κ σ))
    (i : Nat) (ti tr : Tok) (fo : Int)
    (ht : m (Str.ofString "turn") = some (.int (i : Int) ti))
    (hf : m (Str.ofString "form") = some (.int fo tr)) :
    wpAny (model Challenge.rw_sj0175_01.row.prog w) (callerA.deeper (envOfC (Str.ofString "law") lawScope L fa cd)) (execs (elseBody.take 2) (envOfC (Str.ofString "law") lawScope L fa cd))
      (fun f s' => f = .next ∧ TurnSt w κ σ.gl h₀ L n (K + 3) (SpotR κ fo tr) s s') E s := by
  revert X
  k_fill
  intro X
  k_with_none
  rw [← over_self (l := (Str.ofString "form", .int fo tr) :: (Str.ofString "turn", .int (i : Int) ti) :: nms κ σ) (List.forall_mem_cons.mpr ⟨hf, List.forall_mem_cons.mpr ⟨ht, hm⟩⟩)] at F
  obtain ⟨H, ls, bx, dw, xw, d0, x0, d1, x1, hv, ws, ns, c', c'', oz, tz⟩ := κ
  obtain ⟨hH, o2, o3, o4, o5, o6, o7, o8, o9, o10, hI, hlen, hz⟩ := hκ
  obtain ⟨k, kt, tb, c, so, known, kv, vw, v0, v1, tl, th, gl, a1, a2, a3, b1, b2, b3, e1, e2, e3⟩ := σ
  obtain ⟨⟨hk0, hk1, hkv, hl0, hl1, hc0, hc1, h0, h1, hw, sv, hso⟩, hgl⟩ := hσ
  dsimp only [over, nms, led] at *
  show wpAny _ _ (execs [_, _] _) _ _ _
  k_steps
  obtain ⟨p, hp, e1, e2⟩ := spot_ex (by assumption) (by assumption) (by assumption) (by assumption) (by assumption) (by assumption) (by assumption)
  rename (_ : Int) < 2 => hs2
  obtain ⟨b, eb⟩ := bit_ex hs2 (by assumption)
  subst e1 e2 eb
  refine' TurnSt.fin ⟨_, _, tb, _, _, known, _, _, _, _, tl, th, gl, _, _, _, _, _, _, _, _, _⟩ [(Str.ofString "spot", .int (en H p) _), (Str.ofString "length", .int (p.length : Int) _), (Str.ofString "form", .int fo tr)] ?F ?N ?A ?S ?M ?O ?R ?G hgl
  case F => k_asm
  case N => k_asm
  case S =>
    dsimp only [led]
    kqd_sub
  case A => walk_at "my over"
  case M =>
    dsimp only [nms, List.cons_append, List.nil_append]
    repeat' (first | exact List.forall_mem_nil _ | refine List.forall_mem_cons.mpr ⟨?_, ?_⟩ | rfl)
  case G => kqd_sub
  case R => (intro g9; exact ⟨b, p, _, _, _, rfl, hp, by assumption⟩)
  case O =>
    dsimp only
    refine ⟨?p1, ?p2, ?p3, hl0, hl1, ?p4, ?p5, ?p6, ?p7, ?p8, ⟨_, by assumption⟩⟩
    case p1 => dsimp only; omega
    case p2 => dsimp only; omega
    case p3 => assumption
    case p4 => dsimp only; omega
    case p5 => dsimp only; omega
    case p6 => exact TIn.mono h0 (by kqd_sub)
    case p7 => exact TIn.mono h1 (by kqd_sub)
    case p8 => exact TIn.move hw (by walk_at "my move")
end
section
open PySem PySem.W PyProof.Rows PySem.Spec
def R0 (k : Option Int) : List (List Bool × Int) := match k with
  | some x => [([], x)]
  | none => []
/-- the rows so far -/
def RowsR (κ : KO) (f : SO → List (List Bool × Int)) (σ : SO) (x : List (Str × Value)) : Prop :=
  ∃ ra, x = (Str.ofString "rows", .ref ra) :: LH σ.v0 σ.v1 ∧ LsIn (κ.H + 1) σ.gl (.ref ra) (f σ)
theorem ls_of {B : Nat} {X : List (Addr × Obj)} {hv ra : Addr} {va : List Value} {n : Nat} {rs} (hX : ∀ p ∈ X, @LT.lt Nat _ hv p.1 ∨ ∀ vs n, p.2 ≠ tupO vs n) (h1 : (ra, listOf va.toArray n) ∈ X) (h2 : @LT.lt Nat _ hv ra) (h3 : RsIn B X va rs) :
    LsIn B (X.filter fun p => decide (@LT.lt Nat _ hv p.1)) (.ref ra) rs := .mk (List.mem_filter.mpr ⟨h1, by simpa using h2⟩) (h3.above hX)
theorem rs_top {H : Nat} {X : List (Addr × Obj)} {kv : Value} {k : Option Int} {a q : Addr} {n m : Nat} {t u : Tok} (h : OW kv k) (hs : k.isSome = true) (h1 : (a, tupO [.ref q, kv] n) ∈ X) (h2 : (q, tupO [.int 0 t, .int 0 u] m) ∈ X) : RsIn H X [.ref a] (R0 k) := by
  cases h
  · simp at hs
  · exact .cons (top_in h1 h2) .nil
theorem rs_none {H : Nat} {X : List (Addr × Obj)} {k : Option Int} (hs : k.isSome = false) : RsIn H X [] (R0 k) := by
  cases k
  · exact .nil
  · simp at hs
theorem TurnSt.fin2 {w : World} {κ : KO} {gl₀ : List (Addr × Obj)} {h₀ : Heap} {L : Addr} {n K : Nat} {R : SO → List (Str × Value) → Prop} {s : Shared} {h' : Heap} {tk : Nat} {m' : Str → Option Value} {X : List (Addr × Obj)} (σ : SO) (x : List (Str × Value))
    (F : Fr h₀ L h' m') (N : News h₀ L h' X) (hX : ∀ p ∈ X, @LT.lt Nat _ κ.hv p.1 ∨ ∀ vs n, p.2 ≠ tupO vs n) (hs : ∀ p ∈ led w L κ { σ with gl := [] }, p ∈ X) (hm : ∀ q ∈ x ++ nms κ σ, m' q.1 = some q.2)
    (ok : SO.Pre κ { σ with gl := X } n K) (hr : R { σ with gl := X.filter fun p => decide (@LT.lt Nat _ κ.hv p.1) } x) (hg : ∀ p ∈ gl₀, p ∈ X) (hg' : ∀ p ∈ gl₀, @LT.lt Nat _ κ.hv p.1) : TurnSt w κ gl₀ h₀ L n K R s { s with heap := h', toks := tk } := by
  obtain ⟨p1, p2, p3, p4, p5, p6, p7, p8, p9, p10, p11⟩ := ok
  refine ⟨_, _, _, { σ with gl := X.filter fun p => decide (@LT.lt Nat _ κ.hv p.1) }, x, rfl, F, hm, fun p hp => N p ?_, ⟨⟨p1, p2, p3, p4, p5, p6, p7, p8.above hX, p9.above hX, p10.above hX, p11⟩, fun p hp => by simpa using (List.mem_filter.mp hp).2⟩, hr, fun p hp => List.mem_filter.mpr ⟨hg p hp, by simpa using hg' p hp⟩⟩
  have hp' : p ∈ led w L κ { σ with gl := [] } ++ X.filter fun p => decide (@LT.lt Nat _ κ.hv p.1) := hp
  rcases List.mem_append.mp hp' with h | h
  · exact hs p h
  · exact (List.mem_filter.mp h).1
end
section
open PySem PySem.W PyProof.Rows
local macro_rules | `(tactic| walk_at "compareOp IsNot") => `(tactic| (refine' isNot_ow ?h ?_; (case h => assumption)))
local macro_rules | `(tactic| walk_at "compareOp IsNot none") => `(tactic| (refine' isNot_ow ?h ?_; (case h => assumption)))
set_option maxRecDepth 100000 in
set_option maxHeartbeats 8000000 in
theorem rows_top (w : World) {pr loose mean mg mb} (fa L : Addr) (cd : Value) (base h₀ : Heap) (Bl : Below callerA base [] h₀) (X : (hd.heap_1 w.params).In h₀) (T : Top pr loose mean mg mb h₀)
    (κ : KO) (hκ : κ.Ok L) (n K : Nat) (hn : n ≤ 8) (hK : K ≤ 40) (σ : SO) (hσ : σ.Ok κ n K) (m : Str → Option Value) (s : Shared) (E : Value → Shared → Prop)
    (F : Fr h₀ L s.heap m) (hm : ∀ q ∈ nms κ σ, m q.1 = some q.2) (N : News h₀ L s.heap (led w L κ σ))
    (hhi : m (Str.ofString "high") = some (σ.v1))
    (hlo : m (Str.ofString "low") = some (σ.v0)) :
    wpAny (model Challenge.rw_sj0175_01.row.prog w) (callerA.deeper (envOfC (Str.ofString "law") lawScope L fa cd)) (exec (turnBody[4]?.getD (.Pass ⟨0, 0, 0, 0⟩)) (envOfC (Str.ofString "law") lawScope L fa cd))
      (fun f s' => f = .next ∧ TurnSt w κ σ.gl h₀ L n K (RowsR κ fun σ => R0 σ.known) s s') E s := by
  revert X
  k_fill
  intro X
  k_with_none
  rw [← over_self (l := (Str.ofString "low", σ.v0) :: (Str.ofString "high", σ.v1) :: nms κ σ) (List.forall_mem_cons.mpr ⟨hlo, List.forall_mem_cons.mpr ⟨hhi, hm⟩⟩)] at F
  obtain ⟨H, ls, bx, dw, xw, d0, x0, d1, x1, hv, ws, ns, c', c'', oz, tz⟩ := κ
  obtain ⟨hH, o2, o3, o4, o5, o6, o7, o8, o9, o10, hI, hlen, hz⟩ := hκ
  obtain ⟨k, kt, tb, c, so, known, kv, vw, v0, v1, tl, th, gl, a1, a2, a3, b1, b2, b3, e1, e2, e3⟩ := σ
  obtain ⟨⟨hk0, hk1, hkv, hl0, hl1, hc0, hc1, h0, h1, hw, sv, hso⟩, hgl⟩ := hσ
  dsimp only [over, nms, led] at *
  show wpAny _ _ (exec (.Assign _ _ _) _) _ _ _
  have hdk := hkv.handed
  k_steps
  all_goals try trivial
  · refine' TurnSt.fin2 ⟨_, _, tb, _, _, known, _, _, _, _, tl, th, gl, _, _, _, _, _, _, _, _, _⟩ ((Str.ofString "rows", .ref _) :: LH v0 v1) ?F ?N ?A ?S ?M ?O ?R ?G hgl
    case F => k_asm
    case N => k_asm
    case S =>
      dsimp only [led]
      kqd_sub
    case A => walk_at "my over"
    case M =>
      dsimp only [nms, LH, List.cons_append, List.nil_append]
      repeat' (first | exact List.forall_mem_nil _ | refine List.forall_mem_cons.mpr ⟨?_, ?_⟩ | rfl)
    case G => kqd_sub
    case R => exact ⟨_, rfl, ls_of (by walk_at "my over") (va := [_]) (n := _) (by k_mem) (by (show @LT.lt Nat _ _ _; dsimp only; omega)) (rs_top hkv (by assumption) (by k_mem) (by k_mem))⟩
    case O =>
      dsimp only
      refine ⟨?p1, ?p2, ?p3, hl0, hl1, ?p4, ?p5, ?p6, ?p7, ?p8, ⟨_, hso⟩⟩
      case p1 => dsimp only; omega
      case p2 => dsimp only; omega
      case p3 => assumption
      case p4 => dsimp only; omega
      case p5 => dsimp only; omega
      case p6 => exact TIn.mono h0 (by kqd_sub)
      case p7 => exact TIn.mono h1 (by kqd_sub)
      case p8 => exact TIn.mono hw (by kqd_sub)
  · refine' TurnSt.fin2 ⟨_, _, tb, _, _, known, _, _, _, _, tl, th, gl, _, _, _, _, _, _, _, _, _⟩ ((Str.ofString "rows", .ref _) :: LH v0 v1) ?F ?N ?A ?S ?M ?O ?R ?G hgl
    case F => k_asm
    case N => k_asm
    case S =>
      dsimp only [led]
      kqd_sub
    case A => walk_at "my over"
    case M =>
      dsimp only [nms, LH, List.cons_append, List.nil_append]
      repeat' (first | exact List.forall_mem_nil _ | refine List.forall_mem_cons.mpr ⟨?_, ?_⟩ | rfl)
    case G => kqd_sub
    case R => exact ⟨_, rfl, ls_of (by walk_at "my over") (va := []) (n := _) (by k_mem) (by (show @LT.lt Nat _ _ _; dsimp only; omega)) (rs_none (by assumption))⟩
    case O =>
      dsimp only
      refine ⟨?p1, ?p2, ?p3, hl0, hl1, ?p4, ?p5, ?p6, ?p7, ?p8, ⟨_, hso⟩⟩
      case p1 => dsimp only; omega
      case p2 => dsimp only; omega
      case p3 => assumption
      case p4 => dsimp only; omega
      case p5 => dsimp only; omega
      case p6 => exact TIn.mono h0 (by kqd_sub)
      case p7 => exact TIn.mono h1 (by kqd_sub)
      case p8 => exact TIn.mono hw (by kqd_sub)
end
section
open PySem PySem.W PyProof.Rows PySem.Spec
theorem RsIn.move {B : Nat} {X X' : List (Addr × Obj)} {vs : List Value} {xs} (h : RsIn B X vs xs) (hX : ∀ p ∈ X, p ∈ X' ∨ p.2.cls ≠ .type "tuple") : RsIn B X' vs xs := by
  have key : ∀ {a : Addr} {vs : List Value} {n : Nat}, (a, tupO vs n) ∈ X → (a, tupO vs n) ∈ X' := fun hm => (hX _ hm).elim id fun h => absurd rfl h
  induction h with
  | nil => exact .nil
  | cons h1 _ ih =>
    refine .cons ?_ ih
    cases h1 with
    | some a b => exact .some (key a) (key b)
theorem LsIn.move {B : Nat} {X X' : List (Addr × Obj)} {v : Value} {xs} (h : LsIn B X v xs) (hX : ∀ p ∈ X, p ∈ X' ∨ (p.2.cls ≠ .type "tuple" ∧ p.2.cls ≠ .type "list")) : LsIn B X' v xs := by
  cases h with
  | mk h1 h2 => exact .mk ((hX _ h1).elim id fun h => absurd rfl h.2) (h2.move fun p hp => (hX p hp).elim .inl fun h => .inr h.1)
/-- the ledger without the iterator -/
theorem off_iter {h₀ h : Heap} {L I : Addr} {oI : Obj} {X : List (Addr × Obj)} (N : News h₀ L h X) (hI : (I, oI) ∈ X) (hc : oI.cls ≠ .type "tuple" ∧ oI.cls ≠ .type "list") : ∀ p ∈ X, p ∈ X.filter (fun p => decide (@Ne Nat p.1 I)) ∨ (p.2.cls ≠ .type "tuple" ∧ p.2.cls ≠ .type "list") := by
  intro p hp
  by_cases e : @Eq Nat p.1 I
  · right
    have e1 := (N _ hp).1
    have e2 := (N _ hI).1
    have e' : p.1 = I := e
    rw [e'] at e1
    rw [← Option.some.inj (e2.symm.trans e1)]
    exact hc
  · left
    exact List.mem_filter.mpr ⟨hp, decide_eq_true e⟩
theorem not_tup {p : Obj} (h : p.cls ≠ .type "tuple" ∧ p.cls ≠ .type "list") : ∀ vs n, p ≠ tupO vs n := fun vs n e => h.1 (by rw [e])
def rsAt (σ : SO) : Nat → List (List Bool × Int)
  | 0 => R0 σ.known
  | 1 => R0 σ.known ++ (rows σ.tl).map (mvr false)
  | _ => R0 σ.known ++ (rows σ.tl).map (mvr false) ++ (rows σ.th).map (mvr true)
def RowJ (w : World) (L : Addr) (κ : KO) (σ : SO) (tp : Addr × Obj) (i : Nat) (m : Str → Option Value) (X : List (Addr × Obj)) : Prop :=
  ∃ g so ra, X = led w L κ { σ with gl := g, so := so } ∧ (∀ p ∈ σ.gl, p ∈ g) ∧ tp ∈ g ∧ (∀ p ∈ g, @LT.lt Nat _ κ.hv p.1) ∧ (∃ v, so.data = .cell v) ∧ (∀ q ∈ (Str.ofString "rows", .ref ra) :: LH σ.v0 σ.v1 ++ nms κ σ, m q.1 = some q.2) ∧ LsIn (κ.H + 1) g (.ref ra) (rsAt σ i)
theorem led_off {w : World} {L I : Addr} {κ : KO} {σ : SO} (hκ : κ.Ok L) (hI : @LT.lt Nat _ κ.hv I) (hg : ∀ p ∈ σ.gl, p.1 ≠ I) : ∀ p ∈ led w L κ σ, p.1 ≠ I := by
  obtain ⟨hH, o2, o3, o4, o5, o6, o7, o8, o9, o10, -, -, -⟩ := hκ
  have a1 := Nat.lt_trans o10 hI
  have a2 := Nat.lt_trans o9 a1
  have a3 := Nat.lt_trans o8 a2
  have a4 := Nat.lt_trans o7 a3
  have a5 := Nat.lt_trans o6 a4
  have a6 := Nat.lt_trans o5 a5
  have a7 := Nat.lt_trans o4 a6
  have a8 := Nat.lt_trans o3 a7
  have a9 := Nat.lt_trans o2 a8
  have a0 := Nat.lt_trans (Nat.lt_succ_self (L + 1)) a9
  intro p hp
  simp only [led, List.mem_cons] at hp
  rcases hp with rfl | rfl | rfl | rfl | rfl | rfl | rfl | rfl | rfl | rfl | rfl | hp
  · exact Nat.ne_of_lt a7
  · exact Nat.ne_of_lt a9
  · exact Nat.ne_of_lt a6
  · exact Nat.ne_of_lt a4
  · exact Nat.ne_of_lt a2
  · exact Nat.ne_of_lt a8
  · exact Nat.ne_of_lt a0
  · exact Nat.ne_of_lt a5
  · exact Nat.ne_of_lt a3
  · exact Nat.ne_of_lt a1
  · exact Nat.ne_of_lt hI
  · exact hg p hp
theorem rows_post {w : World} {h₀ : Heap} {L I : Addr} {κ : KO} {σ : SO} {b : Bool} {i : Nat} {oI : Obj} {g : List (Addr × Obj)} {so : Obj} {tp : Addr × Obj} {hh : Heap} {tk : Nat} {s s' : Shared} (hκ : κ.Ok L)
    (h : RMid w h₀ L (etaOf κ { σ with gl := (I, oI) :: g, so := so } b) σ.vw (σ.hv b) σ.a1 σ.a2 σ.a3 (σ.t1 b) (σ.t2 b) (σ.t3 b) σ.v0 σ.v1 (rsAt σ (i + 1)) { s with heap := hh, toks := tk } s')
    (hc : oI.cls ≠ .type "tuple" ∧ oI.cls ≠ .type "list") (hI : @LT.lt Nat _ κ.hv I) (hgI : ∀ p ∈ g, p.1 ≠ I) (hg : ∀ p ∈ σ.gl, p ∈ g) (htp : tp ∈ g) (hso : ∃ v, so.data = .cell v) : TurnPost h₀ L s I oI (RowJ w L κ σ tp (i + 1)) .next s' := by
  obtain ⟨h', tk', m', gl', ra, rfl, F, hm, N, hg', hgl', hls⟩ := h
  have e1 : (etaOf κ { σ with gl := (I, oI) :: g, so := so } b).gl = (I, oI) :: g := by cases b <;> rfl
  rw [e1] at hg'
  have NL : News h₀ L h' (led w L κ { σ with gl := gl', so := so }) := fun p hp => N p (by cases b <;> first | exact hp | exact (eta_led (σ := { σ with gl := (I, oI) :: g, so := so }) (b := true) (vs := σ.v1) (tS := σ.th) (g := gl') p).mpr hp)
  have NG : News h₀ L h' gl' := fun p hp => NL p (by simp only [led, List.mem_cons]; exact .inr (.inr (.inr (.inr (.inr (.inr (.inr (.inr (.inr (.inr (.inr hp)))))))))))
  have hII : (I, oI) ∈ gl' := hg' _ (.head _)
  have keep : ∀ p ∈ g, p ∈ gl'.filter (fun p => decide (@Ne Nat p.1 I)) := fun p hp => List.mem_filter.mpr ⟨hg' p (.tail _ hp), decide_eq_true (hgI p hp)⟩
  have hH : (etaOf κ { σ with gl := (I, oI) :: g, so := so } b).H = κ.H := by cases b <;> rfl
  have hn : hnms (etaOf κ { σ with gl := (I, oI) :: g, so := so } b) = nms κ σ := by cases b <;> rfl
  have hv : (etaOf κ { σ with gl := (I, oI) :: g, so := so } b).hv = κ.hv := by cases b <;> rfl
  rw [hH] at hls
  rw [hn] at hm
  rw [hv] at hgl'
  refine ⟨rfl, h', tk', m', led w L κ { σ with gl := gl'.filter (fun p => decide (@Ne Nat p.1 I)), so := so }, rfl, F, fun p hp => ?_, led_off hκ hI (fun p hp => by simpa using (List.mem_filter.mp hp).2), _, so, ra, rfl, fun p hp => keep p (hg p hp), keep _ htp,
    fun p hp => hgl' p (List.mem_filter.mp hp).1, hso, hm, hls.move (off_iter NG hII hc)⟩
  rcases List.mem_cons.mp hp with rfl | hp
  · exact NG _ hII
  · refine NL p ?_
    simp only [led, List.mem_cons] at hp ⊢
    rcases hp with h | h | h | h | h | h | h | h | h | h | h | h
    all_goals first | (simp only [h, true_or, or_true]; done) | skip
    exact .inr (.inr (.inr (.inr (.inr (.inr (.inr (.inr (.inr (.inr (.inr (List.mem_filter.mp h).1))))))))))
end
section
open PySem PySem.W PyProof.Rows
set_option maxRecDepth 100000 in
set_option maxHeartbeats 8000000 in
theorem rows_for (w : World) {pr loose mean mg mb} (fa L : Addr) (cd : Value) (base h₀ : Heap) (Bl : Below callerA base [] h₀) (X : (hd.heap_1 w.params).In h₀) (T : Top pr loose mean mg mb h₀)
    (κ : KO) (hκ : κ.Ok L) (n K : Nat) (hn : n ≤ 8) (hK : K ≤ 40) (σ : SO) (hσ : σ.Ok κ n K) (m : Str → Option Value) (s : Shared) (E : Value → Shared → Prop)
    (F : Fr h₀ L s.heap m) (hm : ∀ q ∈ nms κ σ, m q.1 = some q.2) (N : News h₀ L s.heap (led w L κ σ))
    (ra : Addr) (hls : LsIn (κ.H + 1) σ.gl (.ref ra) (R0 σ.known))
    (hhi : m (Str.ofString "high") = some (σ.v1))
    (hlo : m (Str.ofString "low") = some (σ.v0))
    (hrw : m (Str.ofString "rows") = some (.ref ra)) :
    wpAny (model Challenge.rw_sj0175_01.row.prog w) (callerA.deeper (envOfC (Str.ofString "law") lawScope L fa cd)) (exec rowsStmt (envOfC (Str.ofString "law") lawScope L fa cd))
      (fun f s' => f = .next ∧ TurnSt w κ σ.gl h₀ L n K (RowsR κ fun σ => rsAt σ 2) s s') E s := by
  revert X
  k_fill
  intro X
  k_with_none
  k_with "pyIter ref" => ((refine Stop.go ?_))
  k_with "execs cons" => ((refine Stop.go ?_))
  have hm0 := hm
  rw [← over_self (l := (Str.ofString "rows", .ref ra) :: (Str.ofString "low", σ.v0) :: (Str.ofString "high", σ.v1) :: nms κ σ) (List.forall_mem_cons.mpr ⟨hrw, List.forall_mem_cons.mpr ⟨hlo, List.forall_mem_cons.mpr ⟨hhi, hm⟩⟩⟩)] at F
  have hκ' := hκ
  obtain ⟨hH, o2, o3, o4, o5, o6, o7, o8, o9, o10, hI, hlen, hz⟩ := hκ'
  obtain ⟨⟨hk0, hk1, hkv, hl0, hl1, hc0, hc1, h0, h1, hw, sv, hso⟩, hgl⟩ := hσ
  have hdw := hw.handed
  have hd0 := h0.handed
  have hd1 := h1.handed
  have dl0 := rows_len σ.tl
  have dl1 := rows_len σ.th
  have dk : (R0 σ.known).length ≤ 1 := by unfold R0; split <;> simp
  dsimp only [over, nms, led] at F N
  show wpAny _ _ (exec (.For _ _ _ _ _) _) _ _ _
  refine For_w F ?_
  k_steps
  refine Stop.on ?_
  rename Fr h₀ _ _ _ => F9
  rename News h₀ _ _ _ => N9
  rename_i D _ l1
  have hD : @LT.lt Nat _ κ.hv D := by omega
  obtain ⟨tt0, tt1, kk, N8⟩ : ∃ t0 t1 k, News h₀ L _ (led w L κ { σ with gl := (D, tupO [.int 0 t0, .int 1 t1] k) :: σ.gl }) := ⟨_, _, _, fun p hp => N9 p (by
    revert p
    show ∀ p ∈ led w L κ { σ with gl := (D, _) :: σ.gl }, _
    dsimp only [led]
    kqd_sub)⟩
  clear N9
  refine' tup_walk (RowJ w L κ σ (D, tupO [.int 0 tt0, .int 1 tt1] kk)) rfl F9 N8 ?ht ?hk ?j0 ?step ?done
  case ht => (dsimp only [led]; k_mem)
  case hk =>
    rintro i m X ⟨g, so', ra', rfl, hg, htp, -⟩
    simp only [led, List.mem_cons]
    exact .inr (.inr (.inr (.inr (.inr (.inr (.inr (.inr (.inr (.inr (.inr htp))))))))))
  case j0 =>
    refine ⟨_, σ.so, ra, rfl, fun p hp => .tail _ hp, .head _, List.forall_mem_cons.mpr ⟨hD, hgl⟩, ⟨_, hso⟩, ?_, hls.mono fun p hp => .tail _ hp⟩
    dsimp only [LH, nms, List.cons_append, List.nil_append]
    repeat' (first | exact List.forall_mem_nil _ | refine List.forall_mem_cons.mpr ⟨?_, ?_⟩ | rfl)
  case done =>
    rintro m9 X9 hh tk ⟨g, so', ra', rfl, hg, htp, hg', hs', hm', hls'⟩ F8 N7
    exact ⟨rfl, hh, tk, m9, { σ with gl := g, so := so' }, _, rfl, F8, hm', N7, ⟨⟨hk0, hk1, hkv, hl0, hl1, hc0, hc1, h0.mono hg, h1.mono hg, hw.mono hg, hs'⟩, hg'⟩, ⟨ra', rfl, hls'⟩, hg⟩
  case step =>
    intro I hII i v m9 X9 oI hh tk hi hP hJ hXI hoI F8 N7
    obtain ⟨g, so', ra9, rfl, hg9, htp9, hg9v, ⟨sv9, hso9⟩, hm9, hl9⟩ := hJ
    have hIv : @LT.lt Nat _ κ.hv I := hII (κ.hv, _) (by dsimp only [led]; k_mem)
    have hgI9 : ∀ p ∈ g, p.1 ≠ I := fun p hp => hXI p (by simp only [led, List.mem_cons]; exact .inr (.inr (.inr (.inr (.inr (.inr (.inr (.inr (.inr (.inr (.inr hp)))))))))))
    have hi' : i = 0 ∨ i = 1 := by
      have : i < 2 := hi
      omega
    rcases hi' with rfl | rfl
    · have hv9 : v = .int 0 _ := (Option.some.inj (show some _ = some v from hP)).symm
      subst hv9
      rw [← over_self hm9] at F8
      dsimp only [over, led, LH, nms, List.cons_append, List.nil_append] at F8 N7
      clear F9 N8
      k_steps
      refine Stop.on ?_
      rename Fr h₀ _ _ _ => F7
      rename News h₀ _ _ _ => N6
      rename Obj.data _ = Data.cell (some (Value.int 0 tt0)) => hc9
      have hls := hl9
      obtain ⟨hla, hra⟩ := id hls
      rename_i na va
      refine wpAny_mono (rows_turn w fa L cd base h₀ Bl X T false (etaOf κ { σ with gl := (I, oI) :: g, so := _ } false) (eta_ok hκ ⟨_, hc9⟩ (List.forall_mem_cons.mpr ⟨hIv, hg9v⟩)) σ.tl σ.vw σ.v0 σ.a1 σ.a2 σ.a3 σ.b1 σ.b2 σ.b3 hdw (h0.mono fun p hp => List.mem_cons_of_mem _ (hg9 p hp)) hl0 (by omega) hd1 _ _ _ F7 ?n10 (fun p hp => N6 p ?n20) σ.v0 σ.v1 ra9 va na _ (List.mem_cons_of_mem _ hla) (hra.mono fun p hp => List.mem_cons_of_mem _ hp) ?n30 rfl rfl rfl) (fun f s' h => ?_) fun _ _ e => e
      case n10 =>
        dsimp only [hnms, etaOf]
        repeat' (first | exact List.forall_mem_nil _ | refine List.forall_mem_cons.mpr ⟨?_, ?_⟩ | rfl)
      case n20 =>
        revert p
        show ∀ p ∈ hled _ _ _ _ _ _ _ _ _ _ _, _
        dsimp only [hled, etaOf]
        kqd_sub
      case n30 => (dsimp only [rsAt]; first | (simp only [List.length_append, List.length_map]; omega) | omega)
      obtain ⟨rfl, h⟩ := h
      exact rows_post (b := false) hκ h hoI hIv hgI9 hg9 htp9 ⟨_, hc9⟩
    · have hv9 : v = .int 1 _ := (Option.some.inj (show some _ = some v from hP)).symm
      subst hv9
      rw [← over_self hm9] at F8
      dsimp only [over, led, LH, nms, List.cons_append, List.nil_append] at F8 N7
      clear F9 N8
      k_steps
      refine Stop.on ?_
      rename Fr h₀ _ _ _ => F7
      rename News h₀ _ _ _ => N6
      rename Obj.data _ = Data.cell (some (Value.int 1 tt1)) => hc9
      have hls := hl9
      obtain ⟨hla, hra⟩ := id hls
      rename_i na va
      refine wpAny_mono (rows_turn w fa L cd base h₀ Bl X T true (etaOf κ { σ with gl := (I, oI) :: g, so := _ } true) (eta_ok hκ ⟨_, hc9⟩ (List.forall_mem_cons.mpr ⟨hIv, hg9v⟩)) σ.th σ.vw σ.v1 σ.a1 σ.a2 σ.a3 σ.e1 σ.e2 σ.e3 hdw (h1.mono fun p hp => List.mem_cons_of_mem _ (hg9 p hp)) hl1 (by omega) hd0 _ _ _ F7 ?n11 (fun p hp => N6 p ?n21) σ.v0 σ.v1 ra9 va na _ (List.mem_cons_of_mem _ hla) (hra.mono fun p hp => List.mem_cons_of_mem _ hp) ?n31 rfl rfl rfl) (fun f s' h => ?_) fun _ _ e => e
      case n11 =>
        dsimp only [hnms, etaOf]
        repeat' (first | exact List.forall_mem_nil _ | refine List.forall_mem_cons.mpr ⟨?_, ?_⟩ | rfl)
      case n21 =>
        revert p
        show ∀ p ∈ hled _ _ _ _ _ _ _ _ _ _ _, _
        dsimp only [hled, etaOf]
        kqd_sub
      case n31 => (dsimp only [rsAt]; first | (simp only [List.length_append, List.length_map]; omega) | omega)
      obtain ⟨rfl, h⟩ := h
      exact rows_post (b := true) hκ h hoI hIv hgI9 hg9 htp9 ⟨_, hc9⟩
end
local macro_rules | `(tactic| walk_at "my b8") => `(tactic| first | (refine' isNot_ow ?h ?_; (case h => assumption)) | (refine' isNot_t ?h ?_; (case h => assumption)))
section
open PySem PySem.W PyProof.Rows
def RootR (κ : KO) (σ : SO) (x : List (Str × Value)) : Prop :=
  ∃ ra bb, x = (Str.ofString "is_root", .bool bb) :: (Str.ofString "rows", .ref ra) :: LH σ.v0 σ.v1 ∧ LsIn (κ.H + 1) σ.gl (.ref ra) (rsAt σ 2) ∧ bb = (σ.known.isSome || (!σ.tl.isN && !σ.th.isN))
theorem root_a {a b c : Bool} (h : a = true) : a = (a || (b && c)) := by simp [h]
theorem root_b {a b c : Bool} (h : a = false) (k : b = true) : (!b) = (a || (!b && !c)) := by simp [h, k]
theorem root_c {a b c : Bool} (h : a = false) (k : b = false) : (!c) = (a || (!b && !c)) := by simp [h, k]
local macro_rules | `(tactic| walk_at "compareOp IsNot") => `(tactic| walk_at "my b8")
local macro_rules | `(tactic| walk_at "compareOp IsNot none") => `(tactic| walk_at "my b8")
set_option maxRecDepth 100000 in
set_option maxHeartbeats 8000000 in
theorem is_root (w : World) {pr loose mean mg mb} (fa L : Addr) (cd : Value) (base h₀ : Heap) (Bl : Below callerA base [] h₀) (X : (hd.heap_1 w.params).In h₀) (T : Top pr loose mean mg mb h₀)
    (κ : KO) (hκ : κ.Ok L) (n K : Nat) (hn : n ≤ 8) (hK : K ≤ 40) (σ : SO) (hσ : σ.Ok κ n K) (m : Str → Option Value) (s : Shared) (E : Value → Shared → Prop)
    (F : Fr h₀ L s.heap m) (hm : ∀ q ∈ nms κ σ, m q.1 = some q.2) (N : News h₀ L s.heap (led w L κ σ))
    (ra : Addr) (hls : LsIn (κ.H + 1) σ.gl (.ref ra) (rsAt σ 2))
    (hhi : m (Str.ofString "high") = some (σ.v1))
    (hlo : m (Str.ofString "low") = some (σ.v0))
    (hrw : m (Str.ofString "rows") = some (.ref ra)) :
    wpAny (model Challenge.rw_sj0175_01.row.prog w) (callerA.deeper (envOfC (Str.ofString "law") lawScope L fa cd)) (exec (turnBody[6]?.getD (.Pass ⟨0, 0, 0, 0⟩)) (envOfC (Str.ofString "law") lawScope L fa cd))
      (fun f s' => f = .next ∧ TurnSt w κ σ.gl h₀ L n K (RootR κ) s s') E s := by
  have hσ' := hσ
  revert X
  k_fill
  intro X
  k_with_none
  rw [← over_self (l := (Str.ofString "rows", .ref ra) :: (Str.ofString "low", σ.v0) :: (Str.ofString "high", σ.v1) :: nms κ σ) (List.forall_mem_cons.mpr ⟨hrw, List.forall_mem_cons.mpr ⟨hlo, List.forall_mem_cons.mpr ⟨hhi, hm⟩⟩⟩)] at F
  obtain ⟨H, ls, bx, dw, xw, d0, x0, d1, x1, hv, ws, ns, c', c'', oz, tz⟩ := κ
  obtain ⟨hH, o2, o3, o4, o5, o6, o7, o8, o9, o10, hI, hlen, hz⟩ := hκ
  obtain ⟨k, kt, tb, c, so, known, kv, vw, v0, v1, tl, th, gl, a1, a2, a3, b1, b2, b3, e1, e2, e3⟩ := σ
  obtain ⟨⟨hk0, hk1, hkv, hl0, hl1, hc0, hc1, h0, h1, hw, sv, hso⟩, hgl⟩ := hσ
  dsimp only [over, nms, led] at *
  show wpAny _ _ (exec (.Assign _ _ _) _) _ _ _
  have hdk := hkv.handed
  have hd0 := h0.handed
  have hd1 := h1.handed
  k_steps
  · refine' ⟨_, _, _, ⟨k, kt, tb, c, so, known, kv, vw, v0, v1, tl, th, gl, a1, a2, a3, b1, b2, b3, e1, e2, e3⟩, _, rfl, (by k_asm), ?M0, (by k_asm), hσ', ⟨ra, known.isSome, rfl, hls, root_a (by assumption)⟩, fun _ h => h⟩
    dsimp only [nms, LH, List.cons_append, List.nil_append]
    repeat' (first | exact List.forall_mem_nil _ | refine List.forall_mem_cons.mpr ⟨?_, ?_⟩ | rfl)
  · refine' ⟨_, _, _, ⟨k, kt, tb, c, so, known, kv, vw, v0, v1, tl, th, gl, a1, a2, a3, b1, b2, b3, e1, e2, e3⟩, _, rfl, (by k_asm), ?M1, (by k_asm), hσ', ⟨ra, !tl.isN, rfl, hls, root_b (by assumption) (by assumption)⟩, fun _ h => h⟩
    dsimp only [nms, LH, List.cons_append, List.nil_append]
    repeat' (first | exact List.forall_mem_nil _ | refine List.forall_mem_cons.mpr ⟨?_, ?_⟩ | rfl)
  · refine' ⟨_, _, _, ⟨k, kt, tb, c, so, known, kv, vw, v0, v1, tl, th, gl, a1, a2, a3, b1, b2, b3, e1, e2, e3⟩, _, rfl, (by k_asm), ?M2, (by k_asm), hσ', ⟨ra, !th.isN, rfl, hls, root_c (by assumption) (by assumption)⟩, fun _ h => h⟩
    dsimp only [nms, LH, List.cons_append, List.nil_append]
    repeat' (first | exact List.forall_mem_nil _ | refine List.forall_mem_cons.mpr ⟨?_, ?_⟩ | rfl)
end
section
open PySem PySem.W PyProof.Rows
theorem ne_cnt {prog : Program} {w : World} {A : Around} {E : Value → Shared → Prop} {s : Shared} {Q : Value → Shared → Prop} {a b : Int} {t u : Tok} (h : a = b) (q : Q (.bool false) s) : wpAny (model prog w) A (compareOp .NotEq (.int a t) (.int b u)) Q E s :=
  PyProof.Rows.ne_int (by rw [h]; simpa using q)
theorem rs_joined (l h : PT) (k : Option Int) : rows (joined l h k) = R0 k ++ (rows l).map (mvr false) ++ (rows h).map (mvr true) := rows_joined l h k
theorem cnt_joined (l h : PT) (k : Option Int) : ((joined l h k).count : Int) = (l.count : Int) + (h.count : Int) + (if (k.isSome || (!l.isN && !h.isN)) = true then 1 else 0) := by
  rw [count_joined]; split <;> simp
local macro_rules | `(tactic| walk_at "compareOp NotEq ref ref") => `(tactic| (k_dflt (refine' ne_rows ?N ?a ?b ?c ?e ?d ?_; (case N => k_asm); (case a => k_mem); (case b => exact RsIn.mono (by assumption) (by kqd_sub)); (case c => k_mem); (case e => exact RsIn.mono (by assumption) (by kqd_sub)); (case d => k_units))))
local macro_rules | `(tactic| walk_at "compareOp NotEq int int") => `(tactic| (k_dflt (refine' ne_cnt ?h ?_; (case h => assumption))))
local macro_rules | `(tactic| walk_at "call type:int") => `(tactic| (k_dflt (refine call_int_bool ?_)))
set_option maxRecDepth 100000 in
set_option maxHeartbeats 8000000 in
theorem check_rows (w : World) {pr loose mean mg mb} (fa L : Addr) (cd : Value) (base h₀ : Heap) (Bl : Below callerA base [] h₀) (X : (hd.heap_1 w.params).In h₀) (T : Top pr loose mean mg mb h₀)
    (κ : KO) (hκ : κ.Ok L) (n K : Nat) (hn : n ≤ 8) (hK : K ≤ 40) (σ : SO) (hσ : σ.Ok κ n K) (m : Str → Option Value) (s : Shared) (E : Value → Shared → Prop)
    (F : Fr h₀ L s.heap m) (hm : ∀ q ∈ nms κ σ, m q.1 = some q.2) (N : News h₀ L s.heap (led w L κ σ))
    (ra : Addr) (hls : LsIn (κ.H + 1) σ.gl (.ref ra) (rsAt σ 2))
    (hhi : m (Str.ofString "high") = some (σ.v1))
    (hlo : m (Str.ofString "low") = some (σ.v0))
    (hrw : m (Str.ofString "rows") = some (.ref ra))
    (hbb : m (Str.ofString "is_root") = some (.bool (σ.known.isSome || (!σ.tl.isN && !σ.th.isN)))) :
    wpAny (model Challenge.rw_sj0175_01.row.prog w) (callerA.deeper (envOfC (Str.ofString "law") lawScope L fa cd)) (exec (turnBody[7]?.getD (.Pass ⟨0, 0, 0, 0⟩)) (envOfC (Str.ofString "law") lawScope L fa cd))
      (fun f s' => f = .next ∧ TurnSt w κ σ.gl h₀ L n K NoX s s') E s := by
  obtain ⟨hlm, hlr⟩ := hls
  rw [show rsAt σ 2 = rows (joined σ.tl σ.th σ.known) from (rs_joined _ _ _).symm] at hlr
  revert X
  k_fill
  intro X
  k_with_none
  rw [← over_self (l := (Str.ofString "is_root", .bool (σ.known.isSome || (!σ.tl.isN && !σ.th.isN))) :: (Str.ofString "rows", .ref ra) :: (Str.ofString "low", σ.v0) :: (Str.ofString "high", σ.v1) :: nms κ σ) (List.forall_mem_cons.mpr ⟨hbb, List.forall_mem_cons.mpr ⟨hrw, List.forall_mem_cons.mpr ⟨hlo, List.forall_mem_cons.mpr ⟨hhi, hm⟩⟩⟩⟩)] at F
  obtain ⟨H, ls, bx, dw, xw, d0, x0, d1, x1, hv, ws, ns, c', c'', oz, tz⟩ := κ
  obtain ⟨hH, o2, o3, o4, o5, o6, o7, o8, o9, o10, hI, hlen, hz⟩ := hκ
  obtain ⟨k, kt, tb, c, so, known, kv, vw, v0, v1, tl, th, gl, a1, a2, a3, b1, b2, b3, e1, e2, e3⟩ := σ
  obtain ⟨⟨hk0, hk1, hkv, hl0, hl1, hc0, hc1, h0, h1, hw, sv, hso⟩, hgl⟩ := hσ
  dsimp only [over, nms, led] at *
  show wpAny _ _ (exec (.If _ _ _ _) _) _ _ _
  have hdw := hw.handed
  have hd0 := h0.handed
  have hd1 := h1.handed
  have dl0 := tl.depth_le
  have dl1 := th.depth_le
  have jc := count_joined tl th known
  have jl := (joined tl th known).depth_le
  have cj := cnt_joined tl th known
  have jl := joined_lens (k := known) hl0 hl1
  have jd2 := joined_depth (k := known) hl0 hl1 (by omega : tl.count ≤ 16) (by omega : th.count ≤ 16)
  have jn : (joined tl th known).count ≤ 100 := by
    have : (if (known.isSome || (!tl.isN && !th.isN)) = true then 1 else 0) ≤ 1 := by split <;> omega
    omega
  have Hal := al_u w pr loose mean mg mb
  have Hnc := nc_u w pr loose mean mg mb
  k_with "call ref" => ((with_reducible show wpAny _ _ (call (Value.ref 126) _) _ _ _); (refine wpAny_call ?_); k_dflt (refine' code_def ?k1 ?k2 ?k3 ?k4 ?k5 ?kA ?kF ?kK ?k6 ?k7 ?k8 ?k9 ?kB ?_ ?c2 ?c3 ?c4 ?c5; (case kA => exact rfl); (case kF => exact rfl); (case kK => exact rfl); (case k1 => k_asm); (case k2 => k_asm); (case k3 => k_asm); (case k4 => k_asm); (case k5 => k_asm); (case k6 => k_is); (case k7 => k_is); (case k8 => ktr_room); (case k9 => exact BindsTo.of_eq rfl); (case c5 => decide); (case kB => exact locs rfl); (case c2 => exact rfl); (case c3 => exact rfl); (case c4 => exact rfl); k_whole; intro g' L' h' FG' F' N' B' X' T'; (try dsimp only); (try k_fold)))
  k_with "call ref" => ((with_reducible show wpAny _ _ (call (Value.ref 133) _) _ _ _); (refine wpAny_call ?_); k_dflt (refine' code_def ?k1 ?k2 ?k3 ?k4 ?k5 ?kA ?kF ?kK ?k6 ?k7 ?k8 ?k9 ?kB ?_ ?c2 ?c3 ?c4 ?c5; (case kA => exact rfl); (case kF => exact rfl); (case kK => exact rfl); (case k1 => k_asm); (case k2 => k_asm); (case k3 => k_asm); (case k4 => k_asm); (case k5 => k_asm); (case k6 => k_is); (case k7 => k_is); (case k8 => ktr_room); (case k9 => exact BindsTo.of_eq rfl); (case c5 => decide); (case kB => exact locs rfl); (case c2 => exact rfl); (case c3 => exact rfl); (case c4 => exact rfl); k_whole; intro g' L' h' FG' F' N' B' X' T'; (try dsimp only); (try k_fold)))
  k_with "tree" => ((show (_ : Nat) < _); simp only [alU, ncU])
  k_with "call ref" => (ktn_call (Str.ofString "tree_all") alU; (rename LsIn _ _ _ _ => ho9); (obtain ⟨hm9, hr9⟩ := ho9))
  k_with "call ref" => (ktn_call (Str.ofString "node_count") ncU)
  k_steps
  refine' TurnSt.fin ⟨_, _, tb, _, _, known, _, _, _, _, tl, th, gl, _, _, _, _, _, _, _, _, _⟩ [] ?F ?N ?A ?S ?M ?O ?R ?G hgl
  case F => k_asm
  case N => k_asm
  case S =>
    dsimp only [led]
    kqd_sub
  case A => walk_at "my over"
  case M =>
    dsimp only [nms, List.cons_append, List.nil_append]
    repeat' (first | exact List.forall_mem_nil _ | refine List.forall_mem_cons.mpr ⟨?_, ?_⟩ | rfl)
  case G => kqd_sub
  case R => (intro g9; exact rfl)
  case O =>
    dsimp only
    refine ⟨?p1, ?p2, ?p3, hl0, hl1, ?p4, ?p5, ?p6, ?p7, ?p8, ⟨_, hso⟩⟩
    case p1 => dsimp only; omega
    case p2 => dsimp only; omega
    case p3 => assumption
    case p4 => dsimp only; omega
    case p5 => dsimp only; omega
    case p6 => exact TIn.mono h0 (by kqd_sub)
    case p7 => exact TIn.mono h1 (by kqd_sub)
    case p8 => exact TIn.mono hw (by kqd_sub)
end
section
open PySem PySem.W PyProof.Rows
def FormR (i : Nat) (ti : Tok) (_ : SO) (x : List (Str × Value)) : Prop := ∃ f tf, x = [(Str.ofString "form", .int f tf), (Str.ofString "turn", .int (i : Int) ti)] ∧ 0 ≤ f ∧ f < 8
set_option maxRecDepth 100000 in
set_option maxHeartbeats 8000000 in
theorem form_drawn (w : World) {pr loose mean mg mb} (fa L : Addr) (cd : Value) (base h₀ : Heap) (Bl : Below callerA base [] h₀) (X : (hd.heap_1 w.params).In h₀) (T : Top pr loose mean mg mb h₀)
    (κ : KO) (hκ : κ.Ok L) (n K : Nat) (hn : n ≤ 8) (hK : K ≤ 40) (σ : SO) (hσ : σ.Ok κ n K) (m : Str → Option Value) (s : Shared) (E : Value → Shared → Prop)
    (F : Fr h₀ L s.heap m) (hm : ∀ q ∈ nms κ σ, m q.1 = some q.2) (N : News h₀ L s.heap (led w L κ σ))
    (i : Nat) (ti : Tok)
    (ht : m (Str.ofString "turn") = some (.int (i : Int) ti)) :
    wpAny (model Challenge.rw_sj0175_01.row.prog w) (callerA.deeper (envOfC (Str.ofString "law") lawScope L fa cd)) (exec (turnBody[0]?.getD (.Pass ⟨0, 0, 0, 0⟩)) (envOfC (Str.ofString "law") lawScope L fa cd))
      (fun f s' => f = .next ∧ TurnSt w κ σ.gl h₀ L n (K + 1) (FormR i ti) s s') E s := by
  revert X
  k_fill
  intro X
  k_with_none
  k_with "call ref" => (walk_at "my b5")
  rw [← over_self (l := (Str.ofString "turn", .int (i : Int) ti) :: nms κ σ) (List.forall_mem_cons.mpr ⟨ht, hm⟩)] at F
  obtain ⟨H, ls, bx, dw, xw, d0, x0, d1, x1, hv, ws, ns, c', c'', oz, tz⟩ := κ
  obtain ⟨hH, o2, o3, o4, o5, o6, o7, o8, o9, o10, hI, hlen, hz⟩ := hκ
  obtain ⟨k, kt, tb, c, so, known, kv, vw, v0, v1, tl, th, gl, a1, a2, a3, b1, b2, b3, e1, e2, e3⟩ := σ
  obtain ⟨⟨hk0, hk1, hkv, hl0, hl1, hc0, hc1, h0, h1, hw, sv, hso⟩, hgl⟩ := hσ
  dsimp only [over, nms, led] at *
  show wpAny _ _ (exec (.Assign _ _ _) _) _ _ _
  k_steps
  all_goals try trivial
  refine' TurnSt.fin ⟨_, _, tb, _, _, known, _, _, _, _, tl, th, gl, _, _, _, _, _, _, _, _, _⟩ [(Str.ofString "form", .int _ _), (Str.ofString "turn", .int (i : Int) ti)] ?F ?N ?A ?S ?M ?O ?R ?G hgl
  case F => k_asm
  case N => k_asm
  case S =>
    dsimp only [led]
    kqd_sub
  case A => walk_at "my over"
  case M =>
    dsimp only [nms, List.cons_append, List.nil_append]
    repeat' (first | exact List.forall_mem_nil _ | refine List.forall_mem_cons.mpr ⟨?_, ?_⟩ | rfl)
  case G => kqd_sub
  case R => (intro g9; exact ⟨_, _, rfl, by assumption, by assumption⟩)
  case O =>
    dsimp only
    refine ⟨?p1, ?p2, ?p3, hl0, hl1, ?p4, ?p5, ?p6, ?p7, ?p8, ⟨_, hso⟩⟩
    case p1 => dsimp only; omega
    case p2 => dsimp only; omega
    case p3 => assumption
    case p4 => dsimp only; omega
    case p5 => dsimp only; omega
    case p6 => exact TIn.mono h0 (by kqd_sub)
    case p7 => exact TIn.mono h1 (by kqd_sub)
    case p8 => exact TIn.move hw (by walk_at "my move")
set_option maxRecDepth 100000 in
set_option maxHeartbeats 8000000 in
theorem way_else (w : World) {pr loose mean mg mb} (fa L : Addr) (cd : Value) (base h₀ : Heap) (Bl : Below callerA base [] h₀) (X : (hd.heap_1 w.params).In h₀) (T : Top pr loose mean mg mb h₀)
    (κ : KO) (hκ : κ.Ok L) (n K : Nat) (hn : n ≤ 8) (hK : K ≤ 40) (σ : SO) (hσ : σ.Ok κ n K) (m : Str → Option Value) (s : Shared) (E : Value → Shared → Prop) (Q : Flow → Shared → Prop)
    (F : Fr h₀ L s.heap m) (hm : ∀ q ∈ nms κ σ, m q.1 = some q.2) (N : News h₀ L s.heap (led w L κ σ))
    (fo : Int) (tr : Tok) (hfo : fo ≠ 7) (hf : m (Str.ofString "form") = some (.int fo tr))
    (hQ : ∀ tk, wpAny (model Challenge.rw_sj0175_01.row.prog w) (callerA.deeper (envOfC (Str.ofString "law") lawScope L fa cd)) (execs elseBody (envOfC (Str.ofString "law") lawScope L fa cd)) Q E { s with toks := tk }) :
    wpAny (model Challenge.rw_sj0175_01.row.prog w) (callerA.deeper (envOfC (Str.ofString "law") lawScope L fa cd)) (exec ifStmt (envOfC (Str.ofString "law") lawScope L fa cd)) Q E s := by
  revert X
  k_fill
  intro X
  k_with_none
  k_with "call ref" => (walk_at "my b5")
  k_with "execs cons" => ((refine Stop.go ?_))
  rw [← over_self (l := (Str.ofString "form", .int fo tr) :: nms κ σ) (List.forall_mem_cons.mpr ⟨hf, hm⟩)] at F
  obtain ⟨H, ls, bx, dw, xw, d0, x0, d1, x1, hv, ws, ns, c', c'', oz, tz⟩ := κ
  obtain ⟨hH, o2, o3, o4, o5, o6, o7, o8, o9, o10, hI, hlen, hz⟩ := hκ
  obtain ⟨k, kt, tb, c, so, known, kv, vw, v0, v1, tl, th, gl, a1, a2, a3, b1, b2, b3, e1, e2, e3⟩ := σ
  obtain ⟨⟨hk0, hk1, hkv, hl0, hl1, hc0, hc1, h0, h1, hw, sv, hso⟩, hgl⟩ := hσ
  dsimp only [over, nms, led] at *
  show wpAny _ _ (exec (.If _ _ _ _) _) _ _ _
  k_steps
  all_goals first | (refine Stop.on ?_; refine wpAny_mono (hQ _) (fun f s' h => ?_) fun _ _ e => e; cases f <;> exact h) | (exfalso; omega)
set_option maxRecDepth 100000 in
set_option maxHeartbeats 8000000 in
theorem way_drop (w : World) {pr loose mean mg mb} (fa L : Addr) (cd : Value) (base h₀ : Heap) (Bl : Below callerA base [] h₀) (X : (hd.heap_1 w.params).In h₀) (T : Top pr loose mean mg mb h₀)
    (κ : KO) (hκ : κ.Ok L) (n K : Nat) (hn : n ≤ 8) (hK : K ≤ 40) (σ : SO) (hσ : σ.Ok κ n K) (m : Str → Option Value) (s : Shared) (E : Value → Shared → Prop) (Q : Flow → Shared → Prop)
    (F : Fr h₀ L s.heap m) (hm : ∀ q ∈ nms κ σ, m q.1 = some q.2) (N : News h₀ L s.heap (led w L κ σ))
    (fo : Int) (tr : Tok) (hfo : ¬ fo < 5) (hf : m (Str.ofString "form") = some (.int fo tr))
    (hQ : ∀ tk, wpAny (model Challenge.rw_sj0175_01.row.prog w) (callerA.deeper (envOfC (Str.ofString "law") lawScope L fa cd)) (execs dropBody (envOfC (Str.ofString "law") lawScope L fa cd)) Q E { s with toks := tk }) :
    wpAny (model Challenge.rw_sj0175_01.row.prog w) (callerA.deeper (envOfC (Str.ofString "law") lawScope L fa cd)) (exec pdStmt (envOfC (Str.ofString "law") lawScope L fa cd)) Q E s := by
  revert X
  k_fill
  intro X
  k_with_none
  k_with "call ref" => (walk_at "my b5")
  k_with "execs cons" => ((refine Stop.go ?_))
  rw [← over_self (l := (Str.ofString "form", .int fo tr) :: nms κ σ) (List.forall_mem_cons.mpr ⟨hf, hm⟩)] at F
  obtain ⟨H, ls, bx, dw, xw, d0, x0, d1, x1, hv, ws, ns, c', c'', oz, tz⟩ := κ
  obtain ⟨hH, o2, o3, o4, o5, o6, o7, o8, o9, o10, hI, hlen, hz⟩ := hκ
  obtain ⟨k, kt, tb, c, so, known, kv, vw, v0, v1, tl, th, gl, a1, a2, a3, b1, b2, b3, e1, e2, e3⟩ := σ
  obtain ⟨⟨hk0, hk1, hkv, hl0, hl1, hc0, hc1, h0, h1, hw, sv, hso⟩, hgl⟩ := hσ
  dsimp only [over, nms, led] at *
  show wpAny _ _ (exec (.If _ _ _ _) _) _ _ _
  k_steps
  all_goals first | (refine Stop.on ?_; refine wpAny_mono (hQ _) (fun f s' h => ?_) fun _ _ e => e; cases f <;> exact h) | (exfalso; omega)
end
section
open PySem PySem.W PyProof.Rows PySem.Spec
theorem exec_mid {M : Model} {A : Around} {env : Env} {E : Value → Shared → Prop} {Q : Flow → Shared → Prop} {st : Stmt} {b : List Stmt} {s : Shared} (P : Shared → Prop) (h1 : wpAny M A (exec st env) (fun f s' => f = .next ∧ P s') E s) (h2 : ∀ s', P s' → wpAny M A (execs b env) Q E s') :
    wpAny M A (execs (st :: b) env) Q E s :=
  wpAny_execs_cons (wpAny_mono h1 (fun f s' h => by obtain ⟨rfl, h⟩ := h; exact h2 s' h) fun _ _ h => h)
theorem exec_last {M : Model} {A : Around} {env : Env} {E : Value → Shared → Prop} {st : Stmt} {s : Shared} {P : Shared → Prop} (h1 : wpAny M A (exec st env) (fun f s' => f = .next ∧ P s') E s) : wpAny M A (execs [st] env) (fun f s' => f = .next ∧ P s') E s :=
  exec_mid P h1 fun s' h => wpAny_execs_nil ⟨rfl, h⟩
theorem TurnSt.trans {w : World} {κ : KO} {gl₀ gl₁ : List (Addr × Obj)} {h₀ h : Heap} {tk : Nat} {L : Addr} {n K : Nat} {R : SO → List (Str × Value) → Prop} {s s' : Shared} (hg : ∀ p ∈ gl₀, p ∈ gl₁) (t : TurnSt w κ gl₁ h₀ L n K R { s with heap := h, toks := tk } s') : TurnSt w κ gl₀ h₀ L n K R s s' := by
  obtain ⟨h', tk', m', σ', x, rfl, F, hm, N, ok, hr, hg'⟩ := t
  exact ⟨h', tk', m', σ', x, rfl, F, hm, N, ok, hr, fun p hp => hg' p (hg p hp)⟩
theorem SO.Ok.up {κ : KO} {σ : SO} {n n' K K' : Nat} (h : σ.Ok κ n K) (hn : n ≤ n') (hK : K ≤ K') : σ.Ok κ n' K' := by
  obtain ⟨⟨hk0, hk1, hkv, hl0, hl1, hc0, hc1, h0, h1, hw, hso⟩, hgl⟩ := h
  exact ⟨⟨hk0, by omega, hkv, hl0, hl1, by omega, by omega, h0, h1, hw, hso⟩, hgl⟩
theorem TurnSt.up {w : World} {κ : KO} {gl₀ : List (Addr × Obj)} {h₀ : Heap} {L : Addr} {n n' K K' : Nat} {R : SO → List (Str × Value) → Prop} {s s' : Shared} (t : TurnSt w κ gl₀ h₀ L n K R s s') (hn : n ≤ n') (hK : K ≤ K') : TurnSt w κ gl₀ h₀ L n' K' R s s' := by
  obtain ⟨h', tk', m', σ', x, e, F, hm, N, ok, hr, hg'⟩ := t
  exact ⟨h', tk', m', σ', x, e, F, hm, N, ok.up hn hK, hr, hg'⟩
end
section
open PySem PySem.W PyProof.Rows PySem.Spec
set_option maxRecDepth 20000 in
theorem deed (w : World) {pr loose mean mg mb} (fa L : Addr) (cd : Value) (base h₀ : Heap) (Bl : Below callerA base [] h₀) (X : (hd.heap_1 w.params).In h₀) (T : Top pr loose mean mg mb h₀)
    (κ : KO) (hκ : κ.Ok L) (n K : Nat) (hn : n ≤ 8) (hK : K ≤ 40) (σ : SO) (hσ : σ.Ok κ n K) (m : Str → Option Value) (s : Shared) (E : Value → Shared → Prop)
    (F : Fr h₀ L s.heap m) (hm : ∀ q ∈ nms κ σ, m q.1 = some q.2) (N : News h₀ L s.heap (led w L κ σ))
    (i : Nat) (ti tr : Tok) (fo : Int) (ht : m (Str.ofString "turn") = some (.int (i : Int) ti)) (hf : m (Str.ofString "form") = some (.int fo tr)) (hK' : K + 3 ≤ 40) :
    wpAny (model Challenge.rw_sj0175_01.row.prog w) (callerA.deeper (envOfC (Str.ofString "law") lawScope L fa cd)) (exec ifStmt (envOfC (Str.ofString "law") lawScope L fa cd))
      (fun f s' => f = .next ∧ TurnSt w κ σ.gl h₀ L (n + 1) (K + 3) NoX s s') E s := by
  by_cases h7 : fo = 7
  · subst h7
    cases hk : σ.known with
    | none => exact wpAny_mono (if_known0 w fa L cd base h₀ Bl X T κ hκ n K hn hK σ hσ m s E F hm N hk i ti tr ht hf) (fun _ _ h => ⟨h.1, h.2.up (by omega) (by omega)⟩) fun _ _ e => e
    | some xk => exact wpAny_mono (if_known1 w fa L cd base h₀ Bl X T κ hκ n K hn hK σ hσ m s E F hm N xk hk i ti tr ht hf) (fun _ _ h => ⟨h.1, h.2.up (by omega) (by omega)⟩) fun _ _ e => e
  · refine way_else w fa L cd base h₀ Bl X T κ hκ n K hn hK σ hσ m s E _ F hm N fo tr h7 hf fun tk => ?_
    show wpAny _ _ (execs (elseBody.take 2 ++ [pdStmt]) _) _ _ _
    refine execs_mid (TurnSt w κ σ.gl h₀ L n (K + 3) (SpotR κ fo tr) { s with toks := tk }) (else_head w fa L cd base h₀ Bl X T κ hκ n K hn hK σ hσ m { s with toks := tk } E F hm N i ti tr fo ht hf) fun s2 h2 => ?_
    obtain ⟨hh2, tk2, m2, σ2, x, rfl, F2, hm2, N2, ok2, ⟨b, p, ts, tp, tl, rfl, hp, hs⟩, hg2⟩ := h2
    have e1 := List.forall_mem_cons.mp hm2
    have e2 := List.forall_mem_cons.mp e1.2
    have e3 := List.forall_mem_cons.mp e2.2
    refine exec_last ?_
    by_cases h5 : fo < 5
    · exact wpAny_mono (put_turn w fa L cd base h₀ Bl X T κ hκ n (K + 3) hn hK' σ2 ok2 m2 { s with heap := hh2, toks := tk2 } E F2 e3.2 N2 b p hp fo tr tl tp ts h5 hs e3.1 e2.1 e1.1) (fun _ _ h => ⟨h.1, TurnSt.trans hg2 h.2⟩) fun _ _ e => e
    · refine way_drop w fa L cd base h₀ Bl X T κ hκ n (K + 3) hn hK' σ2 ok2 m2 { s with heap := hh2, toks := tk2 } E _ F2 e3.2 N2 fo tr h5 e3.1 fun tk => ?_
      exact wpAny_mono (drop_turn w fa L cd base h₀ Bl X T κ hκ n (K + 3) hn hK' σ2 ok2 m2 { s with heap := hh2, toks := tk } E F2 e3.2 N2 b p hp fo tr tl tp ts hs e3.1 e2.1 e1.1) (fun _ _ h => ⟨h.1, TurnSt.trans hg2 h.2⟩) fun _ _ e => e
set_option maxRecDepth 20000 in
theorem turn (w : World) {pr loose mean mg mb} (fa L : Addr) (cd : Value) (base h₀ : Heap) (Bl : Below callerA base [] h₀) (X : (hd.heap_1 w.params).In h₀) (T : Top pr loose mean mg mb h₀)
    (κ : KO) (hκ : κ.Ok L) (n K : Nat) (hn : n ≤ 8) (hK : K ≤ 40) (σ : SO) (hσ : σ.Ok κ n K) (m : Str → Option Value) (s : Shared) (E : Value → Shared → Prop)
    (F : Fr h₀ L s.heap m) (hm : ∀ q ∈ nms κ σ, m q.1 = some q.2) (N : News h₀ L s.heap (led w L κ σ))
    (i : Nat) (ti : Tok) (ht : m (Str.ofString "turn") = some (.int (i : Int) ti)) (hK' : K + 4 ≤ 40) (hn8 : n + 1 ≤ 8) :
    wpAny (model Challenge.rw_sj0175_01.row.prog w) (callerA.deeper (envOfC (Str.ofString "law") lawScope L fa cd)) (execs turnBody (envOfC (Str.ofString "law") lawScope L fa cd))
      (fun f s' => f = .next ∧ TurnSt w κ σ.gl h₀ L (n + 1) (K + 4) NoX s s') E s := by
  show wpAny _ _ (execs (turnBody[0]?.getD (.Pass ⟨0, 0, 0, 0⟩) :: ifStmt :: ([turnBody[2]?.getD (.Pass ⟨0, 0, 0, 0⟩), turnBody[3]?.getD (.Pass ⟨0, 0, 0, 0⟩)] ++ [turnBody[4]?.getD (.Pass ⟨0, 0, 0, 0⟩), rowsStmt, turnBody[6]?.getD (.Pass ⟨0, 0, 0, 0⟩), turnBody[7]?.getD (.Pass ⟨0, 0, 0, 0⟩)])) _) _ _ _
  refine exec_mid (TurnSt w κ σ.gl h₀ L n (K + 1) (FormR i ti) s) (form_drawn w fa L cd base h₀ Bl X T κ hκ n K hn hK σ hσ m s E F hm N i ti ht) fun s1 t1 => ?_
  obtain ⟨hh1, tk1, m1, σ1, x1, rfl, F1, hm1, N1, ok1, ⟨f, tf, rfl, -, -⟩, g1⟩ := t1
  have e1 := List.forall_mem_cons.mp hm1
  have e2 := List.forall_mem_cons.mp e1.2
  refine exec_mid _ (deed w fa L cd base h₀ Bl X T κ hκ n (K + 1) hn (by omega) σ1 ok1 m1 _ E F1 e2.2 N1 i ti tf f e2.1 e1.1 (by omega)) fun s2 t2 => ?_
  obtain ⟨hh2, tk2, m2, σ2, x2, rfl, F2, hm2, N2, ok2, rfl, g2⟩ := t2
  refine execs_mid _ (check_tree w fa L cd base h₀ Bl X T κ hκ (n + 1) (K + 4) hn8 hK' σ2 ok2 m2 _ E F2 hm2 N2) fun s3 t3 => ?_
  obtain ⟨hh3, tk3, m3, σ3, x3, rfl, F3, hm3, N3, ok3, rfl, g3⟩ := t3
  have e1 := List.forall_mem_cons.mp hm3
  have e2 := List.forall_mem_cons.mp e1.2
  refine exec_mid _ (rows_top w fa L cd base h₀ Bl X T κ hκ (n + 1) (K + 4) hn8 hK' σ3 ok3 m3 _ E F3 e2.2 N3 e2.1 e1.1) fun s4 t4 => ?_
  obtain ⟨hh4, tk4, m4, σ4, x4, rfl, F4, hm4, N4, ok4, ⟨ra4, rfl, ls4⟩, g4⟩ := t4
  have e1 := List.forall_mem_cons.mp hm4
  have e2 := List.forall_mem_cons.mp e1.2
  have e3 := List.forall_mem_cons.mp e2.2
  refine exec_mid _ (rows_for w fa L cd base h₀ Bl X T κ hκ (n + 1) (K + 4) hn8 hK' σ4 ok4 m4 _ E F4 e3.2 N4 ra4 ls4 e3.1 e2.1 e1.1) fun s5 t5 => ?_
  obtain ⟨hh5, tk5, m5, σ5, x5, rfl, F5, hm5, N5, ok5, ⟨ra5, rfl, ls5⟩, g5⟩ := t5
  have e1 := List.forall_mem_cons.mp hm5
  have e2 := List.forall_mem_cons.mp e1.2
  have e3 := List.forall_mem_cons.mp e2.2
  refine exec_mid _ (is_root w fa L cd base h₀ Bl X T κ hκ (n + 1) (K + 4) hn8 hK' σ5 ok5 m5 _ E F5 e3.2 N5 ra5 ls5 e3.1 e2.1 e1.1) fun s6 t6 => ?_
  obtain ⟨hh6, tk6, m6, σ6, x6, rfl, F6, hm6, N6, ok6, ⟨ra6, bb, rfl, ls6, rfl⟩, g6⟩ := t6
  have e1 := List.forall_mem_cons.mp hm6
  have e2 := List.forall_mem_cons.mp e1.2
  have e3 := List.forall_mem_cons.mp e2.2
  have e4 := List.forall_mem_cons.mp e3.2
  refine exec_last (wpAny_mono (check_rows w fa L cd base h₀ Bl X T κ hκ (n + 1) (K + 4) hn8 hK' σ6 ok6 m6 _ E F6 e4.2 N6 ra6 ls6 e4.1 e3.1 e2.1 e1.1) (fun f s' h => ⟨h.1, ?_⟩) fun _ _ e => e)
  exact TurnSt.trans (fun p hp => g6 p (g5 p (g4 p (g3 p (g2 p (g1 p hp)))))) h.2
end
section
open PySem PySem.W PyProof.Rows PySem.Spec
def OutJ (w : World) (L : Addr) (κ : KO) (i : Nat) (m : Str → Option Value) (X : List (Addr × Obj)) : Prop :=
  ∃ σ, X = led w L κ σ ∧ σ.Ok κ i (1 + 4 * i) ∧ ∀ q ∈ nms κ σ, m q.1 = some q.2
theorem led_gl {w : World} {L : Addr} {κ : KO} {σ : SO} {p : Addr × Obj} (h : p ∈ σ.gl) : p ∈ led w L κ σ := by
  simp only [led, List.mem_cons]; exact .inr (.inr (.inr (.inr (.inr (.inr (.inr (.inr (.inr (.inr (.inr h))))))))))
theorem Ok.grow {κ : KO} {σ : SO} {n K : Nat} {g : List (Addr × Obj)} (h : σ.Ok κ n K) (hs : ∀ p ∈ σ.gl, p ∈ g) (hg : ∀ p ∈ g, @LT.lt Nat _ κ.hv p.1) : SO.Ok κ { σ with gl := g } n K := by
  obtain ⟨⟨hk0, hk1, hkv, hl0, hl1, hc0, hc1, h0, h1, hw, hso⟩, hgl⟩ := h
  exact ⟨⟨hk0, hk1, hkv, hl0, hl1, hc0, hc1, h0.mono hs, h1.mono hs, hw.mono hs, hso⟩, hg⟩
theorem turn_post {w : World} {h₀ : Heap} {L I : Addr} {κ : KO} {i : Nat} {oI : Obj} {g : List (Addr × Obj)} {hh : Heap} {tk : Nat} {s s' : Shared} (hκ : κ.Ok L)
    (t : TurnSt w κ ((I, oI) :: g) h₀ L (i + 1) (1 + 4 * i + 4) NoX { s with heap := hh, toks := tk } s') (hc : oI.cls ≠ .type "tuple" ∧ oI.cls ≠ .type "list") (hI : @LT.lt Nat _ κ.hv I) : TurnPost h₀ L s I oI (OutJ w L κ (i + 1)) .next s' := by
  obtain ⟨h', tk', m', σ, x, rfl, F, hm, N, ok, rfl, hg⟩ := t
  have hII : (I, oI) ∈ σ.gl := hg _ (.head _)
  have NG : News h₀ L h' σ.gl := fun p hp => N p (led_gl hp)
  have mv := off_iter NG hII hc
  have mv' : ∀ p ∈ σ.gl, p ∈ σ.gl.filter (fun p => decide (@Ne Nat p.1 I)) ∨ ∀ vs n, p.2 ≠ tupO vs n := fun p hp => (mv p hp).elim .inl fun h => .inr (not_tup h)
  obtain ⟨⟨hk0, hk1, hkv, hl0, hl1, hc0, hc1, h0, h1, hw, hso⟩, hgl⟩ := ok
  refine ⟨rfl, h', tk', m', led w L κ { σ with gl := σ.gl.filter (fun p => decide (@Ne Nat p.1 I)) }, rfl, F, fun p hp => ?_, led_off hκ hI (fun p hp => by simpa using (List.mem_filter.mp hp).2), _, rfl,
    ⟨⟨hk0, by dsimp only at hk1 ⊢; omega, hkv, hl0, hl1, hc0, hc1, h0.move mv', h1.move mv', hw.move mv', hso⟩, fun p hp => hgl p (List.mem_filter.mp hp).1⟩, hm⟩
  rcases List.mem_cons.mp hp with rfl | hp
  · exact NG _ hII
  · refine N p ?_
    simp only [led, List.mem_cons] at hp ⊢
    rcases hp with h | h | h | h | h | h | h | h | h | h | h | h
    all_goals first | (simp only [h, true_or, or_true]; done) | skip
    exact .inr (.inr (.inr (.inr (.inr (.inr (.inr (.inr (.inr (.inr (.inr (List.mem_filter.mp h).1))))))))))
end
section
open PySem PySem.W PyProof.Rows
set_option maxRecDepth 100000 in
set_option maxHeartbeats 8000000 in
theorem law_for (w : World) {pr loose mean mg mb} (fa L : Addr) (cd : Value) (base h₀ : Heap) (Bl : Below callerA base [] h₀) (X : (hd.heap_1 w.params).In h₀) (T : Top pr loose mean mg mb h₀)
    (κ : KO) (hκ : κ.Ok L) (σ : SO) (hσ : σ.Ok κ 0 1) (m : Str → Option Value) (s : Shared) (E : Value → Shared → Prop)
    (F : Fr h₀ L s.heap m) (hm : ∀ q ∈ nms κ σ, m q.1 = some q.2) (N : News h₀ L s.heap (led w L κ σ)) :
    wpAny (model Challenge.rw_sj0175_01.row.prog w) (callerA.deeper (envOfC (Str.ofString "law") lawScope L fa cd)) (exec lawFor (envOfC (Str.ofString "law") lawScope L fa cd))
      (fun f s' => f = .next ∧ ∃ h' tk' m' X', s' = { s with heap := h', toks := tk' } ∧ Fr h₀ L h' m' ∧ News h₀ L h' X') E s := by
  revert X
  k_fill
  intro X
  k_with_none
  k_with "pyIter ref" => ((refine Stop.go ?_))
  k_with "execs cons" => ((refine Stop.go ?_))
  have hm0 := hm
  rw [← over_self hm] at F
  have hκ' := hκ
  obtain ⟨hH, o2, o3, o4, o5, o6, o7, o8, o9, o10, hI, hlen, hz⟩ := hκ'
  dsimp only [over, nms] at F
  show wpAny _ _ (exec (.For _ _ _ _ _) _) _ _ _
  refine For_w F ?_
  k_steps
  refine Stop.on ?_
  rename Fr h₀ _ _ _ => F9
  rename News h₀ _ _ _ => N9
  rename IsRange _ _ _ _ _ _ _ _ => R9
  refine' range_walk (n := 8) (OutJ w L κ) rfl R9 (by decide) (by decide) F9 N9 ⟨σ, rfl, hσ, ?nm⟩ ?step ?done
  case nm =>
    dsimp only [nms]
    repeat' (first | exact List.forall_mem_nil _ | refine List.forall_mem_cons.mpr ⟨?_, ?_⟩ | rfl)
  case done =>
    rintro m9 X9 hh tk ⟨σ9, rfl, -, -⟩ F8 N8
    exact ⟨rfl, hh, tk, m9, _, rfl, F8, N8⟩
  case step =>
    intro I hII i v m9 X9 oI hh tk hi hP hJ hXI hoI F8 N8
    obtain ⟨σ9, rfl, ok9, hm9⟩ := hJ
    obtain ⟨ti, rfl⟩ := hP
    have hIv : @LT.lt Nat _ κ.hv I := hII (κ.hv, _) (by dsimp only [led]; k_mem)
    rw [← over_self hm9] at F8
    dsimp only [over, nms] at F8
    clear F9 N9
    k_steps
    refine Stop.on ?_
    rename Fr h₀ _ _ _ => F7
    rename News h₀ _ _ _ => N7
    refine wpAny_mono (turn w fa L cd base h₀ Bl X T κ hκ i (1 + 4 * i) (by omega) (by omega) { σ9 with gl := (I, oI) :: σ9.gl } (Ok.grow ok9 (fun p hp => .tail _ hp) (List.forall_mem_cons.mpr ⟨hIv, ok9.hgl⟩)) _ _ _ F7 ?n1 (fun p hp => N7 p ?n2) i ti rfl (by omega) (by omega)) (fun f s' h => ?_) fun _ _ e => e
    case n1 =>
      dsimp only [nms]
      repeat' (first | exact List.forall_mem_nil _ | refine List.forall_mem_cons.mpr ⟨?_, ?_⟩ | rfl)
    case n2 =>
      revert p
      show ∀ p ∈ led _ _ _ _, _
      dsimp only [led]
      kqd_sub
    obtain ⟨rfl, h⟩ := h
    exact turn_post hκ h hoI hIv
end
section
open PySem PySem.W PyProof.Rows PySem.Spec
section
variable {prog : Program} {w : World} {A : Around} {E : Value → Shared → Prop} {s : Shared} {Q : Value → Shared → Prop} {t u : Tok} {r : Int} {H : Nat}
theorem sub_bits (h : r < 2) (h0 : 0 ≤ r) (q : ∀ (H : Nat) tk, H = 2 ∨ H = 3 → Q (.int ((H + 1 : Nat) : Int) tk) { s with toks := s.toks + 1 }) : wpAny (model prog w) A (binaryOp .Sub (.int 4 t) (.int r u)) Q E s := by
  refine PyProof.Rows.sub_int ?_
  have hr : r = 0 ∨ r = 1 := by omega
  rcases hr with rfl | rfl
  · exact q 3 _ (.inr rfl)
  · exact q 2 _ (.inl rfl)
theorem sub_one (q : ∀ tk, Q (.int (H : Int) tk) { s with toks := s.toks + 1 }) : wpAny (model prog w) A (binaryOp .Sub (.int ((H + 1 : Nat) : Int) t) (.int 1 u)) Q E s := by
  refine PyProof.Rows.sub_int ?_
  rw [show ((H + 1 : Nat) : Int) - 1 = (H : Int) by omega]
  exact q _
theorem pow2N (hH : H = 2 ∨ H = 3) (q : ∀ tk, Q (.int (2 ^ H) tk) { s with toks := s.toks + 1 }) : wpAny (model prog w) A (binaryOp .Pow (.int 2 t) (.int (H : Int) u)) Q E s := by
  refine pow2_small (by omega) (by omega) fun z tk hz _ _ => ?_
  rw [hz, show ((H : Int)).toNat = H by omega]
  exact q tk
end
theorem law_start (w : World) {pr loose mean mg mb} (fa L : Addr) (cd : Value) (base h₀ : Heap) (Bl : Below callerA base [] h₀) (X : (hd.heap_1 w.params).In h₀) (T : Top pr loose mean mg mb h₀) {H : Nat} (hH : H = 2 ∨ H = 3)
    {ls bx dw xw d0 x0 d1 x1 hv : Addr} {ws : List Value} {ns : List Int} {c c' c'' : Nat} {so oz : Obj} {tz tb kt a1 a2 a3 b1 b2 b3 e1 e2 e3 : Tok} {k : Int} {m : Str → Option Value} {s : Shared} {Y : List (Addr × Obj)} (E : Value → Shared → Prop)
    (F : Fr h₀ L s.heap m) (hm : ∀ q ∈ [(Str.ofString "box", Value.ref bx), (Str.ofString "bits", .int ((H + 1 : Nat) : Int) tb), (Str.ofString "known", .none), (Str.ofString "whole", .ref xw), (Str.ofString "halves", .ref hv)], m q.1 = some q.2) (N : News h₀ L s.heap Y)
    (m1 : (bx, listOf #[.ref ls, .int k kt] c) ∈ Y) (m2 : (L + 2, so) ∈ Y) (m3 : (xw, instObj 157 dw) ∈ Y) (m4 : (dw, fibD w (H + 1) .none a1 a2 a3) ∈ Y) (m5 : (hv, listOf #[.ref x0, .ref x1] c'') ∈ Y) (m6 : (x0, instObj 157 d0) ∈ Y) (m7 : (d0, fibD w H .none b1 b2 b3) ∈ Y)
    (m8 : (x1, instObj 157 d1) ∈ Y) (m9 : (d1, fibD w H .none e1 e2 e3) ∈ Y) (m10 : (ls, listOf ws.toArray c') ∈ Y) (m11 : (L + 1, oz) ∈ Y) (hso : ∃ v, so.data = .cell v) (hz : oz.data = .cell (some (.int (2 ^ H) tz))) (hI : IntsAre ws ns) (hlen : ns.length ≤ 63) (hk0 : 0 ≤ k) (hk1 : k ≤ 1)
    (o2 : @LT.lt Nat _ (L + 2) ls) (o3 : @LT.lt Nat _ ls bx) (o4 : @LT.lt Nat _ bx dw) (o5 : @LT.lt Nat _ dw xw) (o6 : @LT.lt Nat _ xw d0) (o7 : @LT.lt Nat _ d0 x0) (o8 : @LT.lt Nat _ x0 d1) (o9 : @LT.lt Nat _ d1 x1) (o10 : @LT.lt Nat _ x1 hv) :
    wpAny (model Challenge.rw_sj0175_01.row.prog w) (callerA.deeper (envOfC (Str.ofString "law") lawScope L fa cd)) (exec lawFor (envOfC (Str.ofString "law") lawScope L fa cd))
      (fun f s' => f = .next ∧ ∃ h' tk' m' X', s' = { s with heap := h', toks := tk' } ∧ Fr h₀ L h' m' ∧ News h₀ L h' X') E s :=
  law_for w fa L cd base h₀ Bl X T ⟨H, ls, bx, dw, xw, d0, x0, d1, x1, hv, ws, ns, c', c'', oz, tz⟩ ⟨hH, o2, o3, o4, o5, o6, o7, o8, o9, o10, hI, hlen, hz⟩ ⟨k, kt, tb, c, so, none, .none, .none, .none, .none, .nil, .nil, [], a1, a2, a3, b1, b2, b3, e1, e2, e3⟩
    ⟨⟨hk0, hk1, .none, trivial, trivial, Nat.zero_le _, Nat.zero_le _, .nil, .nil, .nil, hso⟩, List.forall_mem_nil _⟩ m s E F hm fun p hp => N p (by
      simp only [led, List.mem_cons, List.not_mem_nil, or_false] at hp
      rcases hp with rfl | rfl | rfl | rfl | rfl | rfl | rfl | rfl | rfl | rfl | rfl <;> assumption)
end
section
open PySem PySem.W PyProof.Rows
local macro_rules | `(tactic| k_qdec) => `(tactic| decide +kernel)
set_option maxRecDepth 100000 in
set_option maxHeartbeats 8000000 in
theorem fin : PySem.Challenge.rw_sj0175_01.Holds := hd (by
  k_with_none
  k_with "call ref" => (walk_at "my b5")
  k_with "exec For Name Call cons nil" => ((refine Stop.go ?_))
  k_with "binaryOp Sub int int" => (first | ((with_reducible show wpAny _ _ (binaryOp _ (Value.int 4 _) _) _ _ _); k_dflt (refine sub_bits (by assumption) (by assumption) ?_); intro H9 tk9 hH9) | ((with_reducible show wpAny _ _ (binaryOp _ (Value.int (Nat.cast _) _) _) _ _ _); k_dflt (refine sub_one ?_); intro tk9))
  k_with "binaryOp Pow int int" => ((k_dflt (refine pow2N (by assumption) ?_); intro tk9))
  k_go0
  (all_goals try k_fold)
  k_steps
  refine Stop.on ?_
  rename Below callerA _ [] _ => B9
  rename Fr _ _ _ _ => F9
  rename News _ _ _ _ => N9
  rename IntsAre _ (List.take 40 _) => I9
  rename (_ : Nat) = 2 ∨ _ => H9
  refine' wpAny_mono (law_start _ _ _ _ _ _ B9 ?kx ?kt H9 _ F9 ?hm N9 ?m1 ?m2 ?m3 ?m4 ?m5 ?m6 ?m7 ?m8 ?m9 ?m10 ?m11 ?hso ?hz I9 ?hl ?k0 ?k1 ?o2 ?o3 ?o4 ?o5 ?o6 ?o7 ?o8 ?o9 ?o10) (fun f s' h => ?nx) fun _ _ e => e
  case kx => assumption
  case kt => assumption
  case hm => repeat' (first | exact List.forall_mem_nil _ | refine List.forall_mem_cons.mpr ⟨?_, ?_⟩ | rfl)
  case m1 => k_mem
  case m2 => k_mem
  case m3 => k_mem
  case m4 => k_mem
  case m5 => k_mem
  case m6 => k_mem
  case m7 => k_mem
  case m8 => k_mem
  case m9 => k_mem
  case m10 => k_mem
  case m11 => k_mem
  case hso => exact ⟨_, by assumption⟩
  case hz => assumption
  case hl => (simp only [List.length_take]; omega)
  case k0 => omega
  case k1 => omega
  case nx =>
    obtain ⟨rfl, hh, tk, m9, X9, rfl, F8, N8⟩ := h
    clear F9 N9
    k_steps
  all_goals (show @LT.lt Nat _ _ _; first | walk_at "my lt" | omega))
end
end Mine
theorem PySem.Challenge.cw_sj0175_01_holds : PySem.Challenge.rw_sj0175_01.Holds :=
  Mine.fin
