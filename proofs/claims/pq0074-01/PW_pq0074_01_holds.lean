import PyProof.Rows.All
import Wide.All
import OpenK.AllK
import Wide.FinOn
import Lean
import PySem.Challenge.RW_pq0074_01
open PySem PySem.W PyProof.Rows
set_option Elab.async false
set_option maxRecDepth 100000
set_option maxHeartbeats 8000000
set_option linter.unusedVariables false
set_option compiler.extract_closed false
namespace Mine
section
noncomputable abbrev PG : Program := PySem.Challenge.rw_pq0074_01.row.prog
noncomputable abbrev BW : List Stmt := behindTheImports PG
noncomputable def kids : Stmt → List Stmt
  | .ClassDef _ _ _ b .. => b
  | .FunctionDef _ _ b .. => b
  | _ => []
noncomputable def parOf : Stmt → Arguments
  | .FunctionDef _ a .. => a
  | _ => default
noncomputable def scoOf : Stmt → Scope
  | .FunctionDef _ _ _ _ _ _ s .. => s
  | .ClassDef _ _ _ _ _ _ s .. => s
  | _ => default
noncomputable def nth (l : List Stmt) (i : Nat) : Stmt := match l[i]? with | some s => s | none => .Pass default
noncomputable def top (i : Nat) : Stmt := nth PG.main.body i
noncomputable def sub (i j : Nat) : Stmt := nth (kids (top i)) j
noncomputable def VV : Program := view PG [0, 2, 3, 5, 6, 7, 8, 10, 12, 14, 15, 16, 17, 19, 20, 21, 22, 23, 24, 25, 26]
noncomputable def ze (P : Params) (x : String) (t : Tok) (v : Value) : DictEntry := { hash := PyData.keyHash P (Str.ofString x), key := .str (Str.ofString x) t, val := v }
noncomputable def zs (x : String) (t : Tok) : Value := .str (Str.ofString x) t
noncomputable def zt (a : Array Value) : Obj := { cls := .type "tuple", data := Data.seq a }
noncomputable def zg (a : Array Value) : Obj := { cls := .none, data := Data.fields a }
noncomputable def zc (a : Array Value) : Obj := { cls := .type "code", data := Data.fields a }
noncomputable def zd (a : Array DictEntry) (n : Nat) : Obj := { cls := .type "dict", data := Data.dict a n }
noncomputable def zh (x y : String) (p : Arguments) (b : List Stmt) (s : Scope) : Obj := { cls := .none, data := Data.func { name := Str.ofString x, qualname := Str.ofString y, params := p, body := .stmts b, scope := s, globals := 0, closure := [], defaults := .none, kwdefaults := .none } }
noncomputable def zf (x y : String) (p : Arguments) (b : List Stmt) (s : Scope) (m : String) (t : Tok) (c : Addr) : Obj := { cls := .type "function", data := Data.func { name := Str.ofString x, qualname := Str.ofString y, params := p, body := .stmts b, scope := s, globals := 3, closure := [], defaults := .none, kwdefaults := .none, pyModule := .str (Str.ofString m) t, code := .ref c } }
noncomputable def bn (o : Obj) (l r : BT) : BT := .node o l r
noncomputable def bl (o : Obj) : BT := .node o .nil .nil
noncomputable def bz : BT := .nil
local macro_rules | `(tactic| walk_at "QR") => `(tactic| ((case f => exact fun b _ => b); rotate_left; (conv => rhs; whnf); all_goals exact rfl))
noncomputable def o43 (P : Params) : Obj := zt #[]
noncomputable def o44 (P : Params) : Obj := zg #[]
noncomputable def o45 (P : Params) : Obj := zc #[zs "<module>" 182, zs "<module>" 183, zs "/claim/cut.py" 184, .int 1 0, .int 0 0, .int 0 0, .int 0 0, .int 0 0, .ref 11, .bool false, .int 181 0, .ref 12, .none, .none, .none, .none, .int 185 0, .int 1 0, zs "/claim/cut.py" 186]
noncomputable def o46 (P : Params) : Obj := { cls := .type "frame", slots := #[some (.ref 13), some (.ref 3), some (.ref 3), none, some (zs "__main__" 164), none, some (.ref 0)] }
noncomputable def o49 (P : Params) : Obj := { cls := .none, data := Data.dict #[ze P "type.__subclasses__.Exception.0" 230 (.int 47 0), ze P "type.__subclasses__.Exception.n" 231 (.int 1 0)] 2 }
noncomputable def o50 (P : Params) : Obj := zd #[ze P "__name__" 165 (zs "alikeheap.errors" 194), ze P "__doc__" 166 .none, ze P "__package__" 167 .none, ze P "__loader__" 168 (.builtin "__main__.__loader__#opaque"), ze P "__spec__" 169 .none, ze P "__annotations__" 170 (.ref 6), ze P "__builtins__" 171 (.ref 4), ze P "__file__" 173 (zs "/claim/cut.py" 172), ze P "__cached__" 174 .none, ze P "_wall" 193 (.ref 21), ze P "HeapError" 233 (.ref 47)] 11
noncomputable def o51 (P : Params) : Obj := zg #[.int 1 0, .int 0 0, .ref 20, .int 5 0, .int 0 0, .ref 28]
noncomputable def o54 (P : Params) : Obj := zt #[zs "k" 190]
noncomputable def o56 (P : Params) : Obj := zh "_wall" "_wall" (parOf (top 0)) (kids (top 0)) (scoOf (top 0))
noncomputable def o57 (P : Params) : Obj := zc #[zs "_wall" 187, zs "_wall" 188, zs "/claim/cut.py" 189, .int 1 0, .int 1 0, .int 0 0, .int 0 0, .int 3 0, .ref 15, .bool true, .int 181 0, .ref 16, .none, .ref 17, .ref 18, .ref 19, .int 191 0, .int 1 0, zs "/claim/cut.py" 192]
noncomputable def o58 (P : Params) : Obj := zf "_wall" "_wall" (parOf (top 0)) (kids (top 0)) (scoOf (top 0)) "__main__" 164 20
noncomputable def o59 (P : Params) : Obj := zt #[.type "Exception"]
noncomputable def o60 (P : Params) : Obj := { cls := .type "builtin_function_or_method", data := Data.fields #[.builtin "type.__prepare__", .type "type"] }
noncomputable def o61 (P : Params) : Obj := zd #[ze P "__module__" 203 (zs "alikeheap.errors" 194), ze P "__qualname__" 205 (zs "HeapError" 204), ze P "__firstlineno__" 207 (.int 5 206), ze P "__init__" 216 (.ref 37), ze P "told" 223 (.ref 44), ze P "__static_attributes__" 225 (.ref 45), ze P "__classcell__" 226 (.ref 25)] 7
noncomputable def o62 (P : Params) : Obj := { cls := .type "cell", data := Data.cell (some (.ref 47)) }
noncomputable def o64 (P : Params) : Obj := zg #[.int 7 0, .int 4 0, .ref 36, .int 11 0, .int 4 0, .ref 43]
noncomputable def o65 (P : Params) : Obj := zc #[zs "HeapError" 198, zs "HeapError" 199, zs "/claim/cut.py" 200, .int 5 0, .int 0 0, .int 0 0, .int 0 0, .int 0 0, .ref 26, .bool false, .int 181 0, .ref 27, .none, .none, .none, .none, .int 201 0, .int 5 0, zs "/claim/cut.py" 202]
noncomputable def o66 (P : Params) : Obj := { cls := .type "frame", slots := #[some (.ref 28), some (.ref 3), some (.ref 24), none, some (zs "alikeheap.errors" 194), none, some (.ref 0)] }
noncomputable def o67 (P : Params) : Obj := zt #[.ref 25]
noncomputable def o68 (P : Params) : Obj := zt #[zs "__class__" 211]
noncomputable def o70 (P : Params) : Obj := zt #[zs "self" 212, zs "what" 213]
noncomputable def o72 (P : Params) : Obj := zh "__init__" "HeapError.__init__" (parOf (sub 2 0)) (kids (sub 2 0)) (scoOf (sub 2 0))
noncomputable def o73 (P : Params) : Obj := zc #[zs "__init__" 208, zs "HeapError.__init__" 209, zs "/claim/cut.py" 210, .int 7 0, .int 2 0, .int 0 0, .int 0 0, .int 3 0, .ref 31, .bool true, .int 181 0, .ref 32, .none, .ref 33, .ref 34, .ref 35, .int 214 0, .int 7 0, zs "/claim/cut.py" 215]
noncomputable def o74 (P : Params) : Obj := { cls := .type "function", data := Data.func { name := Str.ofString "__init__", qualname := Str.ofString "HeapError.__init__", params := parOf (sub 2 0), body := .stmts (kids (sub 2 0)), scope := scoOf (sub 2 0), globals := 3, closure := [(Str.ofString "__class__", 25)], defaults := .none, kwdefaults := .none, pyModule := zs "alikeheap.errors" 194, code := .ref 36, closureTuple := .ref 30 } }
noncomputable def o77 (P : Params) : Obj := zt #[zs "self" 220]
noncomputable def o79 (P : Params) : Obj := zh "told" "HeapError.told" (parOf (sub 2 1)) (kids (sub 2 1)) (scoOf (sub 2 1))
noncomputable def o80 (P : Params) : Obj := zc #[zs "told" 217, zs "HeapError.told" 218, zs "/claim/cut.py" 219, .int 11 0, .int 1 0, .int 0 0, .int 0 0, .int 3 0, .ref 38, .bool true, .int 181 0, .ref 39, .none, .ref 40, .ref 41, .ref 42, .int 221 0, .int 11 0, zs "/claim/cut.py" 222]
noncomputable def o81 (P : Params) : Obj := zf "told" "HeapError.told" (parOf (sub 2 1)) (kids (sub 2 1)) (scoOf (sub 2 1)) "alikeheap.errors" 194 43
noncomputable def o82 (P : Params) : Obj := zt #[zs "what" 224]
noncomputable def o83 (P : Params) : Obj := zd #[ze P "__module__" 203 (zs "alikeheap.errors" 194), ze P "__firstlineno__" 207 (.int 5 206), ze P "__init__" 216 (.ref 37), ze P "told" 223 (.ref 44), ze P "__static_attributes__" 225 (.ref 45), ze P "__weakref__" 228 (.ref 48), ze P "__doc__" 229 .none] 4
noncomputable def o84 (P : Params) : Obj := { cls := .type "type", data := Data.cls { name := Str.ofString "HeapError", bases := [.type "Exception"], mro := [.ref 47, .type "Exception", .type "BaseException", .type "object"], ns := 46, qualname := Str.ofString "HeapError" }, slots := #[some (.ref 22), none, some (zs "HeapError" 196), some (zs "HeapError" 204), some (.builtin "Exception.__new__"), some (.bool true)] }
noncomputable def o85 (P : Params) : Obj := { cls := .type "getset_descriptor", data := Data.fields #[zs "__weakref__" 227, .ref 47, .builtin "ExceptionGroup.__weakref__", .none] }
noncomputable def o86 (P : Params) : Obj := { cls := .type "super", data := Data.fields #[.ref 47, .ref 47, .ref 47] }
noncomputable def o87 (P : Params) : Obj := { cls := .type "builtin_function_or_method", data := Data.fields #[.builtin "object.__init_subclass__", .ref 47] }
noncomputable def o88 (P : Params) : Obj := zd #[ze P "__name__" 165 (zs "alikeheap.terms" 250), ze P "__doc__" 166 .none, ze P "__package__" 167 .none, ze P "__loader__" 168 (.builtin "__main__.__loader__#opaque"), ze P "__spec__" 169 .none, ze P "__annotations__" 170 (.ref 6), ze P "__builtins__" 171 (.ref 4), ze P "__file__" 173 (zs "/claim/cut.py" 172), ze P "__cached__" 174 .none, ze P "_wall" 193 (.ref 21), ze P "HeapError" 233 (.ref 47), ze P "TermFault" 249 (.ref 60), ze P "is_op" 257 (.ref 67), ze P "is_variable" 264 (.ref 74), ze P "parts" 270 (.ref 79)] 15
noncomputable def o89 (P : Params) : Obj := zg #[.int 1 0, .int 0 0, .ref 20, .int 5 0, .int 0 0, .ref 28, .int 13 0, .int 0 0, .ref 56, .int 16 0, .int 0 0, .ref 66, .int 18 0, .int 0 0, .ref 73, .int 20 0, .int 0 0, .ref 78]
noncomputable def o90 (P : Params) : Obj := { cls := .type "type", data := Data.cls { name := Str.ofString "HeapError", bases := [.type "Exception"], mro := [.ref 47, .type "Exception", .type "BaseException", .type "object"], ns := 46, qualname := Str.ofString "HeapError", subclasses := [.ref 60] }, slots := #[some (.ref 22), none, some (zs "HeapError" 196), some (zs "HeapError" 204), some (.builtin "Exception.__new__"), some (.bool true)] }
noncomputable def o91 (P : Params) : Obj := zt #[.ref 47]
noncomputable def o93 (P : Params) : Obj := zd #[ze P "__module__" 241 (zs "alikeheap.errors" 194), ze P "__qualname__" 243 (zs "TermFault" 242), ze P "__firstlineno__" 245 (.int 13 244), ze P "__static_attributes__" 246 (.ref 58)] 4
noncomputable def o96 (P : Params) : Obj := zc #[zs "TermFault" 236, zs "TermFault" 237, zs "/claim/cut.py" 238, .int 13 0, .int 0 0, .int 0 0, .int 0 0, .int 0 0, .ref 54, .bool false, .int 181 0, .ref 55, .none, .none, .none, .none, .int 239 0, .int 13 0, zs "/claim/cut.py" 240]
noncomputable def o97 (P : Params) : Obj := { cls := .type "frame", slots := #[some (.ref 56), some (.ref 3), some (.ref 53), none, some (zs "alikeheap.errors" 194), none, some (.ref 0)] }
noncomputable def o99 (P : Params) : Obj := zd #[ze P "__module__" 241 (zs "alikeheap.errors" 194), ze P "__firstlineno__" 245 (.int 13 244), ze P "__static_attributes__" 246 (.ref 58), ze P "__doc__" 247 .none] 2
noncomputable def o100 (P : Params) : Obj := { cls := .type "type", data := Data.cls { name := Str.ofString "TermFault", bases := [.ref 47], mro := [.ref 60, .ref 47, .type "Exception", .type "BaseException", .type "object"], ns := 59, qualname := Str.ofString "TermFault" }, slots := #[some (.ref 51), none, some (zs "TermFault" 234), some (zs "TermFault" 242), some (.builtin "Exception.__new__"), some (.bool true)] }
noncomputable def o101 (P : Params) : Obj := { cls := .type "super", data := Data.fields #[.ref 60, .ref 60, .ref 60] }
noncomputable def o102 (P : Params) : Obj := { cls := .type "builtin_function_or_method", data := Data.fields #[.builtin "object.__init_subclass__", .ref 60] }
noncomputable def o105 (P : Params) : Obj := zh "is_op" "is_op" (parOf (top 5)) (kids (top 5)) (scoOf (top 5))
noncomputable def o106 (P : Params) : Obj := zc #[zs "is_op" 252, zs "is_op" 253, zs "/claim/cut.py" 254, .int 16 0, .int 1 0, .int 0 0, .int 0 0, .int 3 0, .ref 63, .bool true, .int 181 0, .ref 64, .none, .none, .none, .ref 65, .int 255 0, .int 16 0, zs "/claim/cut.py" 256]
noncomputable def o107 (P : Params) : Obj := zf "is_op" "is_op" (parOf (top 5)) (kids (top 5)) (scoOf (top 5)) "alikeheap.terms" 250 66
noncomputable def o110 (P : Params) : Obj := zt #[zs "t" 261]
noncomputable def o112 (P : Params) : Obj := zh "is_variable" "is_variable" (parOf (top 6)) (kids (top 6)) (scoOf (top 6))
noncomputable def o113 (P : Params) : Obj := zc #[zs "is_variable" 258, zs "is_variable" 259, zs "/claim/cut.py" 260, .int 18 0, .int 1 0, .int 0 0, .int 0 0, .int 3 0, .ref 68, .bool true, .int 181 0, .ref 69, .none, .ref 70, .ref 71, .ref 72, .int 262 0, .int 18 0, zs "/claim/cut.py" 263]
noncomputable def o114 (P : Params) : Obj := zf "is_variable" "is_variable" (parOf (top 6)) (kids (top 6)) (scoOf (top 6)) "alikeheap.terms" 250 73
noncomputable def o117 (P : Params) : Obj := zh "parts" "parts" (parOf (top 7)) (kids (top 7)) (scoOf (top 7))
noncomputable def o118 (P : Params) : Obj := zc #[zs "parts" 265, zs "parts" 266, zs "/claim/cut.py" 267, .int 20 0, .int 1 0, .int 0 0, .int 0 0, .int 3 0, .ref 75, .bool true, .int 181 0, .ref 76, .none, .none, .none, .ref 77, .int 268 0, .int 20 0, zs "/claim/cut.py" 269]
noncomputable def o119 (P : Params) : Obj := zf "parts" "parts" (parOf (top 7)) (kids (top 7)) (scoOf (top 7)) "alikeheap.terms" 250 78
noncomputable def o120 (P : Params) : Obj := zd #[ze P "__name__" 165 (zs "alikeheap.terms" 250), ze P "__doc__" 166 .none, ze P "__package__" 167 .none, ze P "__loader__" 168 (.builtin "__main__.__loader__#opaque"), ze P "__spec__" 169 .none, ze P "__annotations__" 170 (.ref 6), ze P "__builtins__" 171 (.ref 4), ze P "__file__" 173 (zs "/claim/cut.py" 172), ze P "__cached__" 174 .none, ze P "_wall" 193 (.ref 21), ze P "HeapError" 233 (.ref 47), ze P "TermFault" 249 (.ref 60), ze P "is_op" 257 (.ref 67), ze P "is_variable" 264 (.ref 74), ze P "parts" 270 (.ref 79), ze P "Bank" 401 (.ref 181)] 16
noncomputable def o121 (P : Params) : Obj := zg #[.int 1 0, .int 0 0, .ref 20, .int 5 0, .int 0 0, .ref 28, .int 13 0, .int 0 0, .ref 56, .int 16 0, .int 0 0, .ref 66, .int 18 0, .int 0 0, .ref 73, .int 20 0, .int 0 0, .ref 78, .int 25 0, .int 0 0, .ref 85]
noncomputable def o124 (P : Params) : Obj := zd #[ze P "__module__" 278 (zs "alikeheap.terms" 250), ze P "__qualname__" 280 (zs "Bank" 279), ze P "__firstlineno__" 282 (.int 25 281), ze P "__init__" 289 (.ref 93), ze P "size" 296 (.ref 100), ze P "take" 302 (.ref 105), ze P "require" 310 (.ref 112), ze P "put" 320 (.ref 119), ze P "put_all" 326 (.ref 124), ze P "cut" 334 (.ref 131), ze P "op" 342 (.ref 138), ze P "kids" 350 (.ref 145), ze P "node" 358 (.ref 152), ze P "term" 364 (.ref 157), ze P "weight" 372 (.ref 164), ze P "depth" 380 (.ref 171), ze P "seek" 389 (.ref 178), ze P "__static_attributes__" 394 (.ref 179)] 18
noncomputable def o126 (P : Params) : Obj := zg #[.int 27 0, .int 4 0, .ref 92, .int 33 0, .int 4 0, .ref 99, .int 36 0, .int 4 0, .ref 104, .int 50 0, .int 4 0, .ref 111, .int 54 0, .int 4 0, .ref 118, .int 59 0, .int 4 0, .ref 123, .int 62 0, .int 4 0, .ref 130, .int 65 0, .int 4 0, .ref 137, .int 68 0, .int 4 0, .ref 144, .int 71 0, .int 4 0, .ref 151, .int 74 0, .int 4 0, .ref 156, .int 86 0, .int 4 0, .ref 163, .int 89 0, .int 4 0, .ref 170, .int 92 0, .int 4 0, .ref 177]
noncomputable def o127 (P : Params) : Obj := zc #[zs "Bank" 273, zs "Bank" 274, zs "/claim/cut.py" 275, .int 25 0, .int 0 0, .int 0 0, .int 0 0, .int 0 0, .ref 83, .bool false, .int 181 0, .ref 84, .none, .none, .none, .none, .int 276 0, .int 25 0, zs "/claim/cut.py" 277]
noncomputable def o128 (P : Params) : Obj := { cls := .type "frame", slots := #[some (.ref 85), some (.ref 3), some (.ref 82), none, some (zs "alikeheap.terms" 250), none, some (.ref 0)] }
noncomputable def o131 (P : Params) : Obj := zt #[zs "self" 286]
noncomputable def o133 (P : Params) : Obj := zh "__init__" "Bank.__init__" (parOf (sub 8 0)) (kids (sub 8 0)) (scoOf (sub 2 1))
noncomputable def o134 (P : Params) : Obj := zc #[zs "__init__" 283, zs "Bank.__init__" 284, zs "/claim/cut.py" 285, .int 27 0, .int 1 0, .int 0 0, .int 0 0, .int 3 0, .ref 87, .bool true, .int 181 0, .ref 88, .none, .ref 89, .ref 90, .ref 91, .int 287 0, .int 27 0, zs "/claim/cut.py" 288]
noncomputable def o135 (P : Params) : Obj := zf "__init__" "Bank.__init__" (parOf (sub 8 0)) (kids (sub 8 0)) (scoOf (sub 2 1)) "alikeheap.terms" 250 92
noncomputable def o138 (P : Params) : Obj := zt #[zs "self" 293]
noncomputable def o140 (P : Params) : Obj := zh "size" "Bank.size" (parOf (sub 8 1)) (kids (sub 8 1)) (scoOf (sub 8 1))
noncomputable def o141 (P : Params) : Obj := zc #[zs "size" 290, zs "Bank.size" 291, zs "/claim/cut.py" 292, .int 33 0, .int 1 0, .int 0 0, .int 0 0, .int 3 0, .ref 94, .bool true, .int 181 0, .ref 95, .none, .ref 96, .ref 97, .ref 98, .int 294 0, .int 33 0, zs "/claim/cut.py" 295]
noncomputable def o142 (P : Params) : Obj := zf "size" "Bank.size" (parOf (sub 8 1)) (kids (sub 8 1)) (scoOf (sub 8 1)) "alikeheap.terms" 250 99
noncomputable def o145 (P : Params) : Obj := zh "take" "Bank.take" (parOf (sub 8 2)) (kids (sub 8 2)) (scoOf (sub 8 2))
noncomputable def o146 (P : Params) : Obj := zc #[zs "take" 297, zs "Bank.take" 298, zs "/claim/cut.py" 299, .int 36 0, .int 3 0, .int 0 0, .int 0 0, .int 3 0, .ref 101, .bool true, .int 181 0, .ref 102, .none, .none, .none, .ref 103, .int 300 0, .int 36 0, zs "/claim/cut.py" 301]
noncomputable def o147 (P : Params) : Obj := zf "take" "Bank.take" (parOf (sub 8 2)) (kids (sub 8 2)) (scoOf (sub 8 2)) "alikeheap.terms" 250 104
noncomputable def o150 (P : Params) : Obj := zt #[zs "self" 306, zs "op" 307]
noncomputable def o152 (P : Params) : Obj := zh "require" "Bank.require" (parOf (sub 8 3)) (kids (sub 8 3)) (scoOf (sub 8 3))
noncomputable def o153 (P : Params) : Obj := zc #[zs "require" 303, zs "Bank.require" 304, zs "/claim/cut.py" 305, .int 50 0, .int 2 0, .int 0 0, .int 0 0, .int 3 0, .ref 106, .bool true, .int 181 0, .ref 107, .none, .ref 108, .ref 109, .ref 110, .int 308 0, .int 50 0, zs "/claim/cut.py" 309]
noncomputable def o154 (P : Params) : Obj := zf "require" "Bank.require" (parOf (sub 8 3)) (kids (sub 8 3)) (scoOf (sub 8 3)) "alikeheap.terms" 250 111
noncomputable def o157 (P : Params) : Obj := zt #[zs "self" 314, zs "t" 315, zs "path" 316, zs "part" 317]
noncomputable def o159 (P : Params) : Obj := zh "put" "Bank.put" (parOf (sub 8 4)) (kids (sub 8 4)) (scoOf (sub 8 4))
noncomputable def o160 (P : Params) : Obj := zc #[zs "put" 311, zs "Bank.put" 312, zs "/claim/cut.py" 313, .int 54 0, .int 2 0, .int 0 0, .int 0 0, .int 3 0, .ref 113, .bool true, .int 181 0, .ref 114, .none, .ref 115, .ref 116, .ref 117, .int 318 0, .int 54 0, zs "/claim/cut.py" 319]
noncomputable def o161 (P : Params) : Obj := zf "put" "Bank.put" (parOf (sub 8 4)) (kids (sub 8 4)) (scoOf (sub 8 4)) "alikeheap.terms" 250 118
noncomputable def o164 (P : Params) : Obj := zh "put_all" "Bank.put_all" (parOf (sub 8 5)) (kids (sub 8 5)) (scoOf (sub 8 5))
noncomputable def o165 (P : Params) : Obj := zc #[zs "put_all" 321, zs "Bank.put_all" 322, zs "/claim/cut.py" 323, .int 59 0, .int 2 0, .int 0 0, .int 0 0, .int 3 0, .ref 120, .bool true, .int 181 0, .ref 121, .none, .none, .none, .ref 122, .int 324 0, .int 59 0, zs "/claim/cut.py" 325]
noncomputable def o166 (P : Params) : Obj := zf "put_all" "Bank.put_all" (parOf (sub 8 5)) (kids (sub 8 5)) (scoOf (sub 8 5)) "alikeheap.terms" 250 123
noncomputable def o169 (P : Params) : Obj := zt #[zs "self" 330, zs "many" 331]
noncomputable def o171 (P : Params) : Obj := zh "cut" "Bank.cut" (parOf (sub 8 6)) (kids (sub 8 6)) (scoOf (sub 8 6))
noncomputable def o172 (P : Params) : Obj := zc #[zs "cut" 327, zs "Bank.cut" 328, zs "/claim/cut.py" 329, .int 62 0, .int 2 0, .int 0 0, .int 0 0, .int 3 0, .ref 125, .bool true, .int 181 0, .ref 126, .none, .ref 127, .ref 128, .ref 129, .int 332 0, .int 62 0, zs "/claim/cut.py" 333]
noncomputable def o173 (P : Params) : Obj := zf "cut" "Bank.cut" (parOf (sub 8 6)) (kids (sub 8 6)) (scoOf (sub 8 6)) "alikeheap.terms" 250 130
noncomputable def o176 (P : Params) : Obj := zt #[zs "self" 338, zs "n" 339]
noncomputable def o178 (P : Params) : Obj := zh "op" "Bank.op" (parOf (sub 8 7)) (kids (sub 8 7)) (scoOf (sub 8 7))
noncomputable def o179 (P : Params) : Obj := zc #[zs "op" 335, zs "Bank.op" 336, zs "/claim/cut.py" 337, .int 65 0, .int 2 0, .int 0 0, .int 0 0, .int 3 0, .ref 132, .bool true, .int 181 0, .ref 133, .none, .ref 134, .ref 135, .ref 136, .int 340 0, .int 65 0, zs "/claim/cut.py" 341]
noncomputable def o180 (P : Params) : Obj := zf "op" "Bank.op" (parOf (sub 8 7)) (kids (sub 8 7)) (scoOf (sub 8 7)) "alikeheap.terms" 250 137
noncomputable def o183 (P : Params) : Obj := zt #[zs "self" 346, zs "n" 347]
noncomputable def o185 (P : Params) : Obj := zh "kids" "Bank.kids" (parOf (sub 8 8)) (kids (sub 8 8)) (scoOf (sub 8 7))
noncomputable def o186 (P : Params) : Obj := zc #[zs "kids" 343, zs "Bank.kids" 344, zs "/claim/cut.py" 345, .int 68 0, .int 2 0, .int 0 0, .int 0 0, .int 3 0, .ref 139, .bool true, .int 181 0, .ref 140, .none, .ref 141, .ref 142, .ref 143, .int 348 0, .int 68 0, zs "/claim/cut.py" 349]
noncomputable def o187 (P : Params) : Obj := zf "kids" "Bank.kids" (parOf (sub 8 8)) (kids (sub 8 8)) (scoOf (sub 8 7)) "alikeheap.terms" 250 144
noncomputable def o190 (P : Params) : Obj := zt #[zs "self" 354, zs "n" 355]
noncomputable def o192 (P : Params) : Obj := zh "node" "Bank.node" (parOf (sub 8 9)) (kids (sub 8 9)) (scoOf (sub 8 7))
noncomputable def o193 (P : Params) : Obj := zc #[zs "node" 351, zs "Bank.node" 352, zs "/claim/cut.py" 353, .int 71 0, .int 2 0, .int 0 0, .int 0 0, .int 3 0, .ref 146, .bool true, .int 181 0, .ref 147, .none, .ref 148, .ref 149, .ref 150, .int 356 0, .int 71 0, zs "/claim/cut.py" 357]
noncomputable def o194 (P : Params) : Obj := zf "node" "Bank.node" (parOf (sub 8 9)) (kids (sub 8 9)) (scoOf (sub 8 7)) "alikeheap.terms" 250 151
noncomputable def o197 (P : Params) : Obj := zh "term" "Bank.term" (parOf (sub 8 10)) (kids (sub 8 10)) (scoOf (sub 8 10))
noncomputable def o198 (P : Params) : Obj := zc #[zs "term" 359, zs "Bank.term" 360, zs "/claim/cut.py" 361, .int 74 0, .int 2 0, .int 0 0, .int 0 0, .int 3 0, .ref 153, .bool true, .int 181 0, .ref 154, .none, .none, .none, .ref 155, .int 362 0, .int 74 0, zs "/claim/cut.py" 363]
noncomputable def o199 (P : Params) : Obj := zf "term" "Bank.term" (parOf (sub 8 10)) (kids (sub 8 10)) (scoOf (sub 8 10)) "alikeheap.terms" 250 156
noncomputable def o202 (P : Params) : Obj := zt #[zs "self" 368, zs "n" 369]
noncomputable def o204 (P : Params) : Obj := zh "weight" "Bank.weight" (parOf (sub 8 11)) (kids (sub 8 11)) (scoOf (sub 8 11))
noncomputable def o205 (P : Params) : Obj := zc #[zs "weight" 365, zs "Bank.weight" 366, zs "/claim/cut.py" 367, .int 86 0, .int 2 0, .int 0 0, .int 0 0, .int 3 0, .ref 158, .bool true, .int 181 0, .ref 159, .none, .ref 160, .ref 161, .ref 162, .int 370 0, .int 86 0, zs "/claim/cut.py" 371]
noncomputable def o206 (P : Params) : Obj := zf "weight" "Bank.weight" (parOf (sub 8 11)) (kids (sub 8 11)) (scoOf (sub 8 11)) "alikeheap.terms" 250 163
noncomputable def o209 (P : Params) : Obj := zt #[zs "self" 376, zs "n" 377]
noncomputable def o211 (P : Params) : Obj := zh "depth" "Bank.depth" (parOf (sub 8 12)) (kids (sub 8 12)) (scoOf (sub 8 11))
noncomputable def o212 (P : Params) : Obj := zc #[zs "depth" 373, zs "Bank.depth" 374, zs "/claim/cut.py" 375, .int 89 0, .int 2 0, .int 0 0, .int 0 0, .int 3 0, .ref 165, .bool true, .int 181 0, .ref 166, .none, .ref 167, .ref 168, .ref 169, .int 378 0, .int 89 0, zs "/claim/cut.py" 379]
noncomputable def o213 (P : Params) : Obj := zf "depth" "Bank.depth" (parOf (sub 8 12)) (kids (sub 8 12)) (scoOf (sub 8 11)) "alikeheap.terms" 250 170
noncomputable def o216 (P : Params) : Obj := zt #[zs "self" 384, zs "op" 385, zs "kids" 386]
noncomputable def o218 (P : Params) : Obj := zh "seek" "Bank.seek" (parOf (sub 8 13)) (kids (sub 8 13)) (scoOf (sub 8 13))
noncomputable def o219 (P : Params) : Obj := zc #[zs "seek" 381, zs "Bank.seek" 382, zs "/claim/cut.py" 383, .int 92 0, .int 3 0, .int 0 0, .int 0 0, .int 3 0, .ref 172, .bool true, .int 181 0, .ref 173, .none, .ref 174, .ref 175, .ref 176, .int 387 0, .int 92 0, zs "/claim/cut.py" 388]
noncomputable def o220 (P : Params) : Obj := zf "seek" "Bank.seek" (parOf (sub 8 13)) (kids (sub 8 13)) (scoOf (sub 8 13)) "alikeheap.terms" 250 177
noncomputable def o221 (P : Params) : Obj := zt #[zs "depths" 390, zs "nodes" 391, zs "numbers" 392, zs "weights" 393]
noncomputable def o222 (P : Params) : Obj := zd #[ze P "__module__" 278 (zs "alikeheap.terms" 250), ze P "__firstlineno__" 282 (.int 25 281), ze P "__init__" 289 (.ref 93), ze P "size" 296 (.ref 100), ze P "take" 302 (.ref 105), ze P "require" 310 (.ref 112), ze P "put" 320 (.ref 119), ze P "put_all" 326 (.ref 124), ze P "cut" 334 (.ref 131), ze P "op" 342 (.ref 138), ze P "kids" 350 (.ref 145), ze P "node" 358 (.ref 152), ze P "term" 364 (.ref 157), ze P "weight" 372 (.ref 164), ze P "depth" 380 (.ref 171), ze P "seek" 389 (.ref 178), ze P "__static_attributes__" 394 (.ref 179), ze P "__dict__" 396 (.ref 182), ze P "__weakref__" 398 (.ref 183), ze P "__doc__" 399 .none] 4
noncomputable def o223 (P : Params) : Obj := { cls := .type "type", data := Data.cls { name := Str.ofString "Bank", bases := [.type "object"], mro := [.ref 181, .type "object"], ns := 180, qualname := Str.ofString "Bank" }, slots := #[none, none, some (zs "Bank" 271), some (zs "Bank" 279), some (.builtin "object.__new__"), some (.bool true)] }
noncomputable def o224 (P : Params) : Obj := { cls := .type "getset_descriptor", data := Data.fields #[zs "__dict__" 395, .ref 181, .builtin "function.__dict__", .builtin "function.__dict__#set"] }
noncomputable def o225 (P : Params) : Obj := { cls := .type "getset_descriptor", data := Data.fields #[zs "__weakref__" 397, .ref 181, .builtin "ExceptionGroup.__weakref__", .none] }
noncomputable def o226 (P : Params) : Obj := { cls := .type "super", data := Data.fields #[.ref 181, .ref 181, .ref 181] }
noncomputable def o227 (P : Params) : Obj := { cls := .type "builtin_function_or_method", data := Data.fields #[.builtin "object.__init_subclass__", .ref 181] }
noncomputable def o228 (P : Params) : Obj := zd #[ze P "__name__" 165 (zs "alikeheap.unions" 402), ze P "__doc__" 166 .none, ze P "__package__" 167 .none, ze P "__loader__" 168 (.builtin "__main__.__loader__#opaque"), ze P "__spec__" 169 .none, ze P "__annotations__" 170 (.ref 6), ze P "__builtins__" 171 (.ref 4), ze P "__file__" 173 (zs "/claim/cut.py" 172), ze P "__cached__" 174 .none, ze P "_wall" 193 (.ref 21), ze P "HeapError" 233 (.ref 47), ze P "TermFault" 249 (.ref 60), ze P "is_op" 257 (.ref 67), ze P "is_variable" 264 (.ref 74), ze P "parts" 270 (.ref 79), ze P "Bank" 401 (.ref 181)] 16
noncomputable def o230 (P : Params) : Obj := zd #[ze P "__name__" 165 (zs "alikeheap.unions" 402), ze P "__doc__" 166 .none, ze P "__package__" 167 .none, ze P "__loader__" 168 (.builtin "__main__.__loader__#opaque"), ze P "__spec__" 169 .none, ze P "__annotations__" 170 (.ref 6), ze P "__builtins__" 171 (.ref 4), ze P "__file__" 173 (zs "/claim/cut.py" 172), ze P "__cached__" 174 .none, ze P "_wall" 193 (.ref 21), ze P "HeapError" 233 (.ref 47), ze P "TermFault" 249 (.ref 60), ze P "is_op" 257 (.ref 67), ze P "is_variable" 264 (.ref 74), ze P "parts" 270 (.ref 79), ze P "Bank" 401 (.ref 181), ze P "Unions" 505 (.ref 263)] 17
noncomputable def o231 (P : Params) : Obj := zg #[.int 1 0, .int 0 0, .ref 20, .int 5 0, .int 0 0, .ref 28, .int 13 0, .int 0 0, .ref 56, .int 16 0, .int 0 0, .ref 66, .int 18 0, .int 0 0, .ref 73, .int 20 0, .int 0 0, .ref 78, .int 25 0, .int 0 0, .ref 85, .int 95 0, .int 0 0, .ref 191]
noncomputable def o234 (P : Params) : Obj := zd #[ze P "__module__" 411 (zs "alikeheap.unions" 402), ze P "__qualname__" 413 (zs "Unions" 412), ze P "__firstlineno__" 415 (.int 95 414), ze P "__init__" 422 (.ref 199), ze P "make" 429 (.ref 206), ze P "size" 436 (.ref 213), ze P "find" 444 (.ref 220), ze P "merge" 455 (.ref 227), ze P "members" 463 (.ref 234), ze P "classes" 469 (.ref 239), ze P "log" 476 (.ref 246), ze P "back" 486 (.ref 253), ze P "cut" 494 (.ref 260), ze P "__static_attributes__" 498 (.ref 261)] 14
noncomputable def o236 (P : Params) : Obj := zg #[.int 97 0, .int 4 0, .ref 198, .int 102 0, .int 4 0, .ref 205, .int 107 0, .int 4 0, .ref 212, .int 110 0, .int 4 0, .ref 219, .int 115 0, .int 4 0, .ref 226, .int 124 0, .int 4 0, .ref 233, .int 127 0, .int 4 0, .ref 238, .int 130 0, .int 4 0, .ref 245, .int 133 0, .int 4 0, .ref 252, .int 139 0, .int 4 0, .ref 259]
noncomputable def o237 (P : Params) : Obj := zc #[zs "Unions" 406, zs "Unions" 407, zs "/claim/cut.py" 408, .int 95 0, .int 0 0, .int 0 0, .int 0 0, .int 0 0, .ref 189, .bool false, .int 181 0, .ref 190, .none, .none, .none, .none, .int 409 0, .int 95 0, zs "/claim/cut.py" 410]
noncomputable def o238 (P : Params) : Obj := { cls := .type "frame", slots := #[some (.ref 191), some (.ref 3), some (.ref 188), none, some (zs "alikeheap.unions" 402), none, some (.ref 0)] }
noncomputable def o241 (P : Params) : Obj := zt #[zs "self" 419]
noncomputable def o243 (P : Params) : Obj := zh "__init__" "Unions.__init__" (parOf (sub 10 0)) (kids (sub 10 0)) (scoOf (sub 2 1))
noncomputable def o244 (P : Params) : Obj := zc #[zs "__init__" 416, zs "Unions.__init__" 417, zs "/claim/cut.py" 418, .int 97 0, .int 1 0, .int 0 0, .int 0 0, .int 3 0, .ref 193, .bool true, .int 181 0, .ref 194, .none, .ref 195, .ref 196, .ref 197, .int 420 0, .int 97 0, zs "/claim/cut.py" 421]
noncomputable def o245 (P : Params) : Obj := zf "__init__" "Unions.__init__" (parOf (sub 10 0)) (kids (sub 10 0)) (scoOf (sub 2 1)) "alikeheap.unions" 402 198
noncomputable def o248 (P : Params) : Obj := zt #[zs "self" 426]
noncomputable def o250 (P : Params) : Obj := zh "make" "Unions.make" (parOf (sub 10 1)) (kids (sub 10 1)) (scoOf (sub 8 1))
noncomputable def o251 (P : Params) : Obj := zc #[zs "make" 423, zs "Unions.make" 424, zs "/claim/cut.py" 425, .int 102 0, .int 1 0, .int 0 0, .int 0 0, .int 3 0, .ref 200, .bool true, .int 181 0, .ref 201, .none, .ref 202, .ref 203, .ref 204, .int 427 0, .int 102 0, zs "/claim/cut.py" 428]
noncomputable def o252 (P : Params) : Obj := zf "make" "Unions.make" (parOf (sub 10 1)) (kids (sub 10 1)) (scoOf (sub 8 1)) "alikeheap.unions" 402 205
noncomputable def o255 (P : Params) : Obj := zt #[zs "self" 433]
noncomputable def o257 (P : Params) : Obj := zh "size" "Unions.size" (parOf (sub 10 2)) (kids (sub 10 2)) (scoOf (sub 8 1))
noncomputable def o258 (P : Params) : Obj := zc #[zs "size" 430, zs "Unions.size" 431, zs "/claim/cut.py" 432, .int 107 0, .int 1 0, .int 0 0, .int 0 0, .int 3 0, .ref 207, .bool true, .int 181 0, .ref 208, .none, .ref 209, .ref 210, .ref 211, .int 434 0, .int 107 0, zs "/claim/cut.py" 435]
noncomputable def o259 (P : Params) : Obj := zf "size" "Unions.size" (parOf (sub 10 2)) (kids (sub 10 2)) (scoOf (sub 8 1)) "alikeheap.unions" 402 212
noncomputable def o262 (P : Params) : Obj := zt #[zs "self" 440, zs "a" 441]
noncomputable def o264 (P : Params) : Obj := zh "find" "Unions.find" (parOf (sub 10 3)) (kids (sub 10 3)) (scoOf (sub 10 3))
noncomputable def o265 (P : Params) : Obj := zc #[zs "find" 437, zs "Unions.find" 438, zs "/claim/cut.py" 439, .int 110 0, .int 2 0, .int 0 0, .int 0 0, .int 3 0, .ref 214, .bool true, .int 181 0, .ref 215, .none, .ref 216, .ref 217, .ref 218, .int 442 0, .int 110 0, zs "/claim/cut.py" 443]
noncomputable def o266 (P : Params) : Obj := zf "find" "Unions.find" (parOf (sub 10 3)) (kids (sub 10 3)) (scoOf (sub 10 3)) "alikeheap.unions" 402 219
noncomputable def o269 (P : Params) : Obj := zt #[zs "self" 448, zs "a" 449, zs "b" 450, zs "kept" 451, zs "gone" 452]
noncomputable def o271 (P : Params) : Obj := zh "merge" "Unions.merge" (parOf (sub 10 4)) (kids (sub 10 4)) (scoOf (sub 10 4))
noncomputable def o272 (P : Params) : Obj := zc #[zs "merge" 445, zs "Unions.merge" 446, zs "/claim/cut.py" 447, .int 115 0, .int 3 0, .int 0 0, .int 0 0, .int 3 0, .ref 221, .bool true, .int 181 0, .ref 222, .none, .ref 223, .ref 224, .ref 225, .int 453 0, .int 115 0, zs "/claim/cut.py" 454]
noncomputable def o273 (P : Params) : Obj := zf "merge" "Unions.merge" (parOf (sub 10 4)) (kids (sub 10 4)) (scoOf (sub 10 4)) "alikeheap.unions" 402 226
noncomputable def o276 (P : Params) : Obj := zt #[zs "self" 459, zs "a" 460]
noncomputable def o278 (P : Params) : Obj := zh "members" "Unions.members" (parOf (sub 10 5)) (kids (sub 10 5)) (scoOf (sub 10 5))
noncomputable def o279 (P : Params) : Obj := zc #[zs "members" 456, zs "Unions.members" 457, zs "/claim/cut.py" 458, .int 124 0, .int 2 0, .int 0 0, .int 0 0, .int 3 0, .ref 228, .bool true, .int 181 0, .ref 229, .none, .ref 230, .ref 231, .ref 232, .int 461 0, .int 124 0, zs "/claim/cut.py" 462]
noncomputable def o280 (P : Params) : Obj := zf "members" "Unions.members" (parOf (sub 10 5)) (kids (sub 10 5)) (scoOf (sub 10 5)) "alikeheap.unions" 402 233
noncomputable def o283 (P : Params) : Obj := zh "classes" "Unions.classes" (parOf (sub 10 6)) (kids (sub 10 6)) (scoOf (sub 10 6))
noncomputable def o284 (P : Params) : Obj := zc #[zs "classes" 464, zs "Unions.classes" 465, zs "/claim/cut.py" 466, .int 127 0, .int 1 0, .int 0 0, .int 0 0, .int 3 0, .ref 235, .bool true, .int 181 0, .ref 236, .none, .none, .none, .ref 237, .int 467 0, .int 127 0, zs "/claim/cut.py" 468]
noncomputable def o285 (P : Params) : Obj := zf "classes" "Unions.classes" (parOf (sub 10 6)) (kids (sub 10 6)) (scoOf (sub 10 6)) "alikeheap.unions" 402 238
noncomputable def o288 (P : Params) : Obj := zt #[zs "self" 473]
noncomputable def o290 (P : Params) : Obj := zh "log" "Unions.log" (parOf (sub 10 7)) (kids (sub 10 7)) (scoOf (sub 10 7))
noncomputable def o291 (P : Params) : Obj := zc #[zs "log" 470, zs "Unions.log" 471, zs "/claim/cut.py" 472, .int 130 0, .int 1 0, .int 0 0, .int 0 0, .int 3 0, .ref 240, .bool true, .int 181 0, .ref 241, .none, .ref 242, .ref 243, .ref 244, .int 474 0, .int 130 0, zs "/claim/cut.py" 475]
noncomputable def o292 (P : Params) : Obj := zf "log" "Unions.log" (parOf (sub 10 7)) (kids (sub 10 7)) (scoOf (sub 10 7)) "alikeheap.unions" 402 245
noncomputable def o295 (P : Params) : Obj := zt #[zs "self" 480, zs "many" 481, zs "kept" 482, zs "gone" 483]
noncomputable def o297 (P : Params) : Obj := zh "back" "Unions.back" (parOf (sub 10 8)) (kids (sub 10 8)) (scoOf (sub 10 8))
noncomputable def o298 (P : Params) : Obj := zc #[zs "back" 477, zs "Unions.back" 478, zs "/claim/cut.py" 479, .int 133 0, .int 2 0, .int 0 0, .int 0 0, .int 3 0, .ref 247, .bool true, .int 181 0, .ref 248, .none, .ref 249, .ref 250, .ref 251, .int 484 0, .int 133 0, zs "/claim/cut.py" 485]
noncomputable def o299 (P : Params) : Obj := zf "back" "Unions.back" (parOf (sub 10 8)) (kids (sub 10 8)) (scoOf (sub 10 8)) "alikeheap.unions" 402 252
noncomputable def o302 (P : Params) : Obj := zt #[zs "self" 490, zs "many" 491]
noncomputable def o304 (P : Params) : Obj := zh "cut" "Unions.cut" (parOf (sub 10 9)) (kids (sub 10 9)) (scoOf (sub 8 6))
noncomputable def o305 (P : Params) : Obj := zc #[zs "cut" 487, zs "Unions.cut" 488, zs "/claim/cut.py" 489, .int 139 0, .int 2 0, .int 0 0, .int 0 0, .int 3 0, .ref 254, .bool true, .int 181 0, .ref 255, .none, .ref 256, .ref 257, .ref 258, .int 492 0, .int 139 0, zs "/claim/cut.py" 493]
noncomputable def o306 (P : Params) : Obj := zf "cut" "Unions.cut" (parOf (sub 10 9)) (kids (sub 10 9)) (scoOf (sub 8 6)) "alikeheap.unions" 402 259
noncomputable def o307 (P : Params) : Obj := zt #[zs "above" 495, zs "lots" 496, zs "merged" 497]
noncomputable def o308 (P : Params) : Obj := zd #[ze P "__module__" 411 (zs "alikeheap.unions" 402), ze P "__firstlineno__" 415 (.int 95 414), ze P "__init__" 422 (.ref 199), ze P "make" 429 (.ref 206), ze P "size" 436 (.ref 213), ze P "find" 444 (.ref 220), ze P "merge" 455 (.ref 227), ze P "members" 463 (.ref 234), ze P "classes" 469 (.ref 239), ze P "log" 476 (.ref 246), ze P "back" 486 (.ref 253), ze P "cut" 494 (.ref 260), ze P "__static_attributes__" 498 (.ref 261), ze P "__dict__" 500 (.ref 264), ze P "__weakref__" 502 (.ref 265), ze P "__doc__" 503 .none] 4
noncomputable def o309 (P : Params) : Obj := { cls := .type "type", data := Data.cls { name := Str.ofString "Unions", bases := [.type "object"], mro := [.ref 263, .type "object"], ns := 262, qualname := Str.ofString "Unions" }, slots := #[none, none, some (zs "Unions" 404), some (zs "Unions" 412), some (.builtin "object.__new__"), some (.bool true)] }
noncomputable def o310 (P : Params) : Obj := { cls := .type "getset_descriptor", data := Data.fields #[zs "__dict__" 499, .ref 263, .builtin "function.__dict__", .builtin "function.__dict__#set"] }
noncomputable def o311 (P : Params) : Obj := { cls := .type "getset_descriptor", data := Data.fields #[zs "__weakref__" 501, .ref 263, .builtin "ExceptionGroup.__weakref__", .none] }
noncomputable def o312 (P : Params) : Obj := { cls := .type "super", data := Data.fields #[.ref 263, .ref 263, .ref 263] }
noncomputable def o313 (P : Params) : Obj := { cls := .type "builtin_function_or_method", data := Data.fields #[.builtin "object.__init_subclass__", .ref 263] }
noncomputable def o314 (P : Params) : Obj := zd #[ze P "__name__" 165 (zs "alikeheap.heap" 506), ze P "__doc__" 166 .none, ze P "__package__" 167 .none, ze P "__loader__" 168 (.builtin "__main__.__loader__#opaque"), ze P "__spec__" 169 .none, ze P "__annotations__" 170 (.ref 6), ze P "__builtins__" 171 (.ref 4), ze P "__file__" 173 (zs "/claim/cut.py" 172), ze P "__cached__" 174 .none, ze P "_wall" 193 (.ref 21), ze P "HeapError" 233 (.ref 47), ze P "TermFault" 249 (.ref 60), ze P "is_op" 257 (.ref 67), ze P "is_variable" 264 (.ref 74), ze P "parts" 270 (.ref 79), ze P "Bank" 401 (.ref 181), ze P "Unions" 505 (.ref 263)] 17
noncomputable def o316 (P : Params) : Obj := zd #[ze P "__name__" 165 (zs "alikeheap.heap" 506), ze P "__doc__" 166 .none, ze P "__package__" 167 .none, ze P "__loader__" 168 (.builtin "__main__.__loader__#opaque"), ze P "__spec__" 169 .none, ze P "__annotations__" 170 (.ref 6), ze P "__builtins__" 171 (.ref 4), ze P "__file__" 173 (zs "/claim/cut.py" 172), ze P "__cached__" 174 .none, ze P "_wall" 193 (.ref 21), ze P "HeapError" 233 (.ref 47), ze P "TermFault" 249 (.ref 60), ze P "is_op" 257 (.ref 67), ze P "is_variable" 264 (.ref 74), ze P "parts" 270 (.ref 79), ze P "Bank" 401 (.ref 181), ze P "Unions" 505 (.ref 263), ze P "Heap" 673 (.ref 395)] 18
noncomputable def o317 (P : Params) : Obj := zg #[.int 1 0, .int 0 0, .ref 20, .int 5 0, .int 0 0, .ref 28, .int 13 0, .int 0 0, .ref 56, .int 16 0, .int 0 0, .ref 66, .int 18 0, .int 0 0, .ref 73, .int 20 0, .int 0 0, .ref 78, .int 25 0, .int 0 0, .ref 85, .int 95 0, .int 0 0, .ref 191, .int 142 0, .int 0 0, .ref 273]
noncomputable def o320 (P : Params) : Obj := zd #[ze P "__module__" 515 (zs "alikeheap.heap" 506), ze P "__qualname__" 517 (zs "Heap" 516), ze P "__firstlineno__" 519 (.int 142 518), ze P "__init__" 526 (.ref 281), ze P "size" 533 (.ref 288), ze P "node" 539 (.ref 293), ze P "add" 545 (.ref 298), ze P "put" 551 (.ref 303), ze P "look_at" 560 (.ref 310), ze P "find" 568 (.ref 317), ze P "are_like" 577 (.ref 324), ze P "merge" 587 (.ref 331), ze P "join" 600 (.ref 338), ze P "settle" 607 (.ref 345), ze P "is_settled" 614 (.ref 352), ze P "classes" 621 (.ref 359), ze P "members" 629 (.ref 366), ze P "nodes_of" 637 (.ref 373), ze P "many_nodes" 644 (.ref 380), ze P "seek" 650 (.ref 385), ze P "users" 658 (.ref 392), ze P "__static_attributes__" 666 (.ref 393)] 22
noncomputable def o322 (P : Params) : Obj := zg #[.int 144 0, .int 4 0, .ref 280, .int 153 0, .int 4 0, .ref 287, .int 156 0, .int 4 0, .ref 292, .int 159 0, .int 4 0, .ref 297, .int 170 0, .int 4 0, .ref 302, .int 173 0, .int 4 0, .ref 309, .int 178 0, .int 4 0, .ref 316, .int 181 0, .int 4 0, .ref 323, .int 184 0, .int 4 0, .ref 330, .int 187 0, .int 4 0, .ref 337, .int 198 0, .int 4 0, .ref 344, .int 202 0, .int 4 0, .ref 351, .int 205 0, .int 4 0, .ref 358, .int 208 0, .int 4 0, .ref 365, .int 211 0, .int 4 0, .ref 372, .int 214 0, .int 4 0, .ref 379, .int 217 0, .int 4 0, .ref 384, .int 221 0, .int 4 0, .ref 391]
noncomputable def o323 (P : Params) : Obj := zc #[zs "Heap" 510, zs "Heap" 511, zs "/claim/cut.py" 512, .int 142 0, .int 0 0, .int 0 0, .int 0 0, .int 0 0, .ref 271, .bool false, .int 181 0, .ref 272, .none, .none, .none, .none, .int 513 0, .int 142 0, zs "/claim/cut.py" 514]
noncomputable def o324 (P : Params) : Obj := { cls := .type "frame", slots := #[some (.ref 273), some (.ref 3), some (.ref 270), none, some (zs "alikeheap.heap" 506), none, some (.ref 0)] }
noncomputable def o327 (P : Params) : Obj := zt #[zs "self" 523]
noncomputable def o329 (P : Params) : Obj := zh "__init__" "Heap.__init__" (parOf (sub 12 0)) (kids (sub 12 0)) (scoOf (sub 12 0))
noncomputable def o330 (P : Params) : Obj := zc #[zs "__init__" 520, zs "Heap.__init__" 521, zs "/claim/cut.py" 522, .int 144 0, .int 1 0, .int 0 0, .int 0 0, .int 3 0, .ref 275, .bool true, .int 181 0, .ref 276, .none, .ref 277, .ref 278, .ref 279, .int 524 0, .int 144 0, zs "/claim/cut.py" 525]
noncomputable def o331 (P : Params) : Obj := zf "__init__" "Heap.__init__" (parOf (sub 12 0)) (kids (sub 12 0)) (scoOf (sub 12 0)) "alikeheap.heap" 506 280
noncomputable def o334 (P : Params) : Obj := zt #[zs "self" 530]
noncomputable def o336 (P : Params) : Obj := zh "size" "Heap.size" (parOf (sub 12 1)) (kids (sub 12 1)) (scoOf (sub 2 1))
noncomputable def o337 (P : Params) : Obj := zc #[zs "size" 527, zs "Heap.size" 528, zs "/claim/cut.py" 529, .int 153 0, .int 1 0, .int 0 0, .int 0 0, .int 3 0, .ref 282, .bool true, .int 181 0, .ref 283, .none, .ref 284, .ref 285, .ref 286, .int 531 0, .int 153 0, zs "/claim/cut.py" 532]
noncomputable def o338 (P : Params) : Obj := zf "size" "Heap.size" (parOf (sub 12 1)) (kids (sub 12 1)) (scoOf (sub 2 1)) "alikeheap.heap" 506 287
noncomputable def o341 (P : Params) : Obj := zh "node" "Heap.node" (parOf (sub 12 2)) (kids (sub 12 2)) (scoOf (sub 12 2))
noncomputable def o342 (P : Params) : Obj := zc #[zs "node" 534, zs "Heap.node" 535, zs "/claim/cut.py" 536, .int 156 0, .int 2 0, .int 0 0, .int 0 0, .int 3 0, .ref 289, .bool true, .int 181 0, .ref 290, .none, .none, .none, .ref 291, .int 537 0, .int 156 0, zs "/claim/cut.py" 538]
noncomputable def o343 (P : Params) : Obj := zf "node" "Heap.node" (parOf (sub 12 2)) (kids (sub 12 2)) (scoOf (sub 12 2)) "alikeheap.heap" 506 292
noncomputable def o346 (P : Params) : Obj := zh "add" "Heap.add" (parOf (sub 12 3)) (kids (sub 12 3)) (scoOf (sub 12 3))
noncomputable def o347 (P : Params) : Obj := zc #[zs "add" 540, zs "Heap.add" 541, zs "/claim/cut.py" 542, .int 159 0, .int 3 0, .int 0 0, .int 0 0, .int 3 0, .ref 294, .bool true, .int 181 0, .ref 295, .none, .none, .none, .ref 296, .int 543 0, .int 159 0, zs "/claim/cut.py" 544]
noncomputable def o348 (P : Params) : Obj := zf "add" "Heap.add" (parOf (sub 12 3)) (kids (sub 12 3)) (scoOf (sub 12 3)) "alikeheap.heap" 506 297
noncomputable def o351 (P : Params) : Obj := zh "put" "Heap.put" (parOf (sub 12 4)) (kids (sub 12 4)) (scoOf (sub 12 4))
noncomputable def o352 (P : Params) : Obj := zc #[zs "put" 546, zs "Heap.put" 547, zs "/claim/cut.py" 548, .int 170 0, .int 2 0, .int 0 0, .int 0 0, .int 3 0, .ref 299, .bool true, .int 181 0, .ref 300, .none, .none, .none, .ref 301, .int 549 0, .int 170 0, zs "/claim/cut.py" 550]
noncomputable def o353 (P : Params) : Obj := zf "put" "Heap.put" (parOf (sub 12 4)) (kids (sub 12 4)) (scoOf (sub 12 4)) "alikeheap.heap" 506 302
noncomputable def o356 (P : Params) : Obj := zt #[zs "self" 555, zs "n" 556, zs "other" 557]
noncomputable def o358 (P : Params) : Obj := zh "look_at" "Heap.look_at" (parOf (sub 12 5)) (kids (sub 12 5)) (scoOf (sub 12 5))
noncomputable def o359 (P : Params) : Obj := zc #[zs "look_at" 552, zs "Heap.look_at" 553, zs "/claim/cut.py" 554, .int 173 0, .int 2 0, .int 0 0, .int 0 0, .int 3 0, .ref 304, .bool true, .int 181 0, .ref 305, .none, .ref 306, .ref 307, .ref 308, .int 558 0, .int 173 0, zs "/claim/cut.py" 559]
noncomputable def o360 (P : Params) : Obj := zf "look_at" "Heap.look_at" (parOf (sub 12 5)) (kids (sub 12 5)) (scoOf (sub 12 5)) "alikeheap.heap" 506 309
noncomputable def o363 (P : Params) : Obj := zt #[zs "self" 564, zs "n" 565]
noncomputable def o365 (P : Params) : Obj := zh "find" "Heap.find" (parOf (sub 12 6)) (kids (sub 12 6)) (scoOf (sub 8 7))
noncomputable def o366 (P : Params) : Obj := zc #[zs "find" 561, zs "Heap.find" 562, zs "/claim/cut.py" 563, .int 178 0, .int 2 0, .int 0 0, .int 0 0, .int 3 0, .ref 311, .bool true, .int 181 0, .ref 312, .none, .ref 313, .ref 314, .ref 315, .int 566 0, .int 178 0, zs "/claim/cut.py" 567]
noncomputable def o367 (P : Params) : Obj := zf "find" "Heap.find" (parOf (sub 12 6)) (kids (sub 12 6)) (scoOf (sub 8 7)) "alikeheap.heap" 506 316
noncomputable def o370 (P : Params) : Obj := zt #[zs "self" 572, zs "a" 573, zs "b" 574]
noncomputable def o372 (P : Params) : Obj := zh "are_like" "Heap.are_like" (parOf (sub 12 7)) (kids (sub 12 7)) (scoOf (sub 12 7))
noncomputable def o373 (P : Params) : Obj := zc #[zs "are_like" 569, zs "Heap.are_like" 570, zs "/claim/cut.py" 571, .int 181 0, .int 3 0, .int 0 0, .int 0 0, .int 3 0, .ref 318, .bool true, .int 181 0, .ref 319, .none, .ref 320, .ref 321, .ref 322, .int 575 0, .int 181 0, zs "/claim/cut.py" 576]
noncomputable def o374 (P : Params) : Obj := zf "are_like" "Heap.are_like" (parOf (sub 12 7)) (kids (sub 12 7)) (scoOf (sub 12 7)) "alikeheap.heap" 506 323
noncomputable def o377 (P : Params) : Obj := zt #[zs "self" 581, zs "a" 582, zs "b" 583, zs "reason" 584]
noncomputable def o379 (P : Params) : Obj := zh "merge" "Heap.merge" (parOf (sub 12 8)) (kids (sub 12 8)) (scoOf (sub 12 8))
noncomputable def o380 (P : Params) : Obj := zc #[zs "merge" 578, zs "Heap.merge" 579, zs "/claim/cut.py" 580, .int 184 0, .int 4 0, .int 0 0, .int 0 0, .int 3 0, .ref 325, .bool true, .int 181 0, .ref 326, .none, .ref 327, .ref 328, .ref 329, .int 585 0, .int 184 0, zs "/claim/cut.py" 586]
noncomputable def o381 (P : Params) : Obj := zf "merge" "Heap.merge" (parOf (sub 12 8)) (kids (sub 12 8)) (scoOf (sub 12 8)) "alikeheap.heap" 506 330
noncomputable def o384 (P : Params) : Obj := zt #[zs "self" 591, zs "a" 592, zs "b" 593, zs "reason" 594, zs "merged" 595, zs "kept" 596, zs "gone" 597]
noncomputable def o386 (P : Params) : Obj := zh "join" "Heap.join" (parOf (sub 12 9)) (kids (sub 12 9)) (scoOf (sub 12 9))
noncomputable def o387 (P : Params) : Obj := zc #[zs "join" 588, zs "Heap.join" 589, zs "/claim/cut.py" 590, .int 187 0, .int 4 0, .int 0 0, .int 0 0, .int 3 0, .ref 332, .bool true, .int 181 0, .ref 333, .none, .ref 334, .ref 335, .ref 336, .int 598 0, .int 187 0, zs "/claim/cut.py" 599]
noncomputable def o388 (P : Params) : Obj := zf "join" "Heap.join" (parOf (sub 12 9)) (kids (sub 12 9)) (scoOf (sub 12 9)) "alikeheap.heap" 506 337
noncomputable def o391 (P : Params) : Obj := zt #[zs "self" 604]
noncomputable def o393 (P : Params) : Obj := zh "settle" "Heap.settle" (parOf (sub 12 10)) (kids (sub 12 10)) (scoOf (sub 8 1))
noncomputable def o394 (P : Params) : Obj := zc #[zs "settle" 601, zs "Heap.settle" 602, zs "/claim/cut.py" 603, .int 198 0, .int 1 0, .int 0 0, .int 0 0, .int 3 0, .ref 339, .bool true, .int 181 0, .ref 340, .none, .ref 341, .ref 342, .ref 343, .int 605 0, .int 198 0, zs "/claim/cut.py" 606]
noncomputable def o395 (P : Params) : Obj := zf "settle" "Heap.settle" (parOf (sub 12 10)) (kids (sub 12 10)) (scoOf (sub 8 1)) "alikeheap.heap" 506 344
noncomputable def o398 (P : Params) : Obj := zt #[zs "self" 611]
noncomputable def o400 (P : Params) : Obj := zh "is_settled" "Heap.is_settled" (parOf (sub 12 11)) (kids (sub 12 11)) (scoOf (sub 8 1))
noncomputable def o401 (P : Params) : Obj := zc #[zs "is_settled" 608, zs "Heap.is_settled" 609, zs "/claim/cut.py" 610, .int 202 0, .int 1 0, .int 0 0, .int 0 0, .int 3 0, .ref 346, .bool true, .int 181 0, .ref 347, .none, .ref 348, .ref 349, .ref 350, .int 612 0, .int 202 0, zs "/claim/cut.py" 613]
noncomputable def o402 (P : Params) : Obj := zf "is_settled" "Heap.is_settled" (parOf (sub 12 11)) (kids (sub 12 11)) (scoOf (sub 8 1)) "alikeheap.heap" 506 351
noncomputable def o405 (P : Params) : Obj := zt #[zs "self" 618]
noncomputable def o407 (P : Params) : Obj := zh "classes" "Heap.classes" (parOf (sub 12 12)) (kids (sub 12 12)) (scoOf (sub 2 1))
noncomputable def o408 (P : Params) : Obj := zc #[zs "classes" 615, zs "Heap.classes" 616, zs "/claim/cut.py" 617, .int 205 0, .int 1 0, .int 0 0, .int 0 0, .int 3 0, .ref 353, .bool true, .int 181 0, .ref 354, .none, .ref 355, .ref 356, .ref 357, .int 619 0, .int 205 0, zs "/claim/cut.py" 620]
noncomputable def o409 (P : Params) : Obj := zf "classes" "Heap.classes" (parOf (sub 12 12)) (kids (sub 12 12)) (scoOf (sub 2 1)) "alikeheap.heap" 506 358
noncomputable def o412 (P : Params) : Obj := zt #[zs "self" 625, zs "c" 626]
noncomputable def o414 (P : Params) : Obj := zh "members" "Heap.members" (parOf (sub 12 13)) (kids (sub 12 13)) (scoOf (sub 12 13))
noncomputable def o415 (P : Params) : Obj := zc #[zs "members" 622, zs "Heap.members" 623, zs "/claim/cut.py" 624, .int 208 0, .int 2 0, .int 0 0, .int 0 0, .int 3 0, .ref 360, .bool true, .int 181 0, .ref 361, .none, .ref 362, .ref 363, .ref 364, .int 627 0, .int 208 0, zs "/claim/cut.py" 628]
noncomputable def o416 (P : Params) : Obj := zf "members" "Heap.members" (parOf (sub 12 13)) (kids (sub 12 13)) (scoOf (sub 12 13)) "alikeheap.heap" 506 365
noncomputable def o419 (P : Params) : Obj := zt #[zs "self" 633, zs "c" 634]
noncomputable def o421 (P : Params) : Obj := zh "nodes_of" "Heap.nodes_of" (parOf (sub 12 14)) (kids (sub 12 14)) (scoOf (sub 12 13))
noncomputable def o422 (P : Params) : Obj := zc #[zs "nodes_of" 630, zs "Heap.nodes_of" 631, zs "/claim/cut.py" 632, .int 211 0, .int 2 0, .int 0 0, .int 0 0, .int 3 0, .ref 367, .bool true, .int 181 0, .ref 368, .none, .ref 369, .ref 370, .ref 371, .int 635 0, .int 211 0, zs "/claim/cut.py" 636]
noncomputable def o423 (P : Params) : Obj := zf "nodes_of" "Heap.nodes_of" (parOf (sub 12 14)) (kids (sub 12 14)) (scoOf (sub 12 13)) "alikeheap.heap" 506 372
noncomputable def o426 (P : Params) : Obj := zt #[zs "self" 641]
noncomputable def o428 (P : Params) : Obj := zh "many_nodes" "Heap.many_nodes" (parOf (sub 12 15)) (kids (sub 12 15)) (scoOf (sub 10 7))
noncomputable def o429 (P : Params) : Obj := zc #[zs "many_nodes" 638, zs "Heap.many_nodes" 639, zs "/claim/cut.py" 640, .int 214 0, .int 1 0, .int 0 0, .int 0 0, .int 3 0, .ref 374, .bool true, .int 181 0, .ref 375, .none, .ref 376, .ref 377, .ref 378, .int 642 0, .int 214 0, zs "/claim/cut.py" 643]
noncomputable def o430 (P : Params) : Obj := zf "many_nodes" "Heap.many_nodes" (parOf (sub 12 15)) (kids (sub 12 15)) (scoOf (sub 10 7)) "alikeheap.heap" 506 379
noncomputable def o433 (P : Params) : Obj := zh "seek" "Heap.seek" (parOf (sub 12 16)) (kids (sub 12 16)) (scoOf (sub 12 16))
noncomputable def o434 (P : Params) : Obj := zc #[zs "seek" 645, zs "Heap.seek" 646, zs "/claim/cut.py" 647, .int 217 0, .int 3 0, .int 0 0, .int 0 0, .int 3 0, .ref 381, .bool true, .int 181 0, .ref 382, .none, .none, .none, .ref 383, .int 648 0, .int 217 0, zs "/claim/cut.py" 649]
noncomputable def o435 (P : Params) : Obj := zf "seek" "Heap.seek" (parOf (sub 12 16)) (kids (sub 12 16)) (scoOf (sub 12 16)) "alikeheap.heap" 506 384
noncomputable def o438 (P : Params) : Obj := zt #[zs "self" 654, zs "c" 655]
noncomputable def o440 (P : Params) : Obj := zh "users" "Heap.users" (parOf (sub 12 17)) (kids (sub 12 17)) (scoOf (sub 12 13))
noncomputable def o441 (P : Params) : Obj := zc #[zs "users" 651, zs "Heap.users" 652, zs "/claim/cut.py" 653, .int 221 0, .int 2 0, .int 0 0, .int 0 0, .int 3 0, .ref 386, .bool true, .int 181 0, .ref 387, .none, .ref 388, .ref 389, .ref 390, .int 656 0, .int 221 0, zs "/claim/cut.py" 657]
noncomputable def o442 (P : Params) : Obj := zf "users" "Heap.users" (parOf (sub 12 17)) (kids (sub 12 17)) (scoOf (sub 12 13)) "alikeheap.heap" 506 391
noncomputable def o443 (P : Params) : Obj := zt #[zs "above" 659, zs "bank" 660, zs "edges" 661, zs "forest" 662, zs "known" 663, zs "unions" 664, zs "waiting" 665]
noncomputable def o444 (P : Params) : Obj := zd #[ze P "__module__" 515 (zs "alikeheap.heap" 506), ze P "__firstlineno__" 519 (.int 142 518), ze P "__init__" 526 (.ref 281), ze P "size" 533 (.ref 288), ze P "node" 539 (.ref 293), ze P "add" 545 (.ref 298), ze P "put" 551 (.ref 303), ze P "look_at" 560 (.ref 310), ze P "find" 568 (.ref 317), ze P "are_like" 577 (.ref 324), ze P "merge" 587 (.ref 331), ze P "join" 600 (.ref 338), ze P "settle" 607 (.ref 345), ze P "is_settled" 614 (.ref 352), ze P "classes" 621 (.ref 359), ze P "members" 629 (.ref 366), ze P "nodes_of" 637 (.ref 373), ze P "many_nodes" 644 (.ref 380), ze P "seek" 650 (.ref 385), ze P "users" 658 (.ref 392), ze P "__static_attributes__" 666 (.ref 393), ze P "__dict__" 668 (.ref 396), ze P "__weakref__" 670 (.ref 397), ze P "__doc__" 671 .none] 4
noncomputable def o445 (P : Params) : Obj := { cls := .type "type", data := Data.cls { name := Str.ofString "Heap", bases := [.type "object"], mro := [.ref 395, .type "object"], ns := 394, qualname := Str.ofString "Heap" }, slots := #[none, none, some (zs "Heap" 508), some (zs "Heap" 516), some (.builtin "object.__new__"), some (.bool true)] }
noncomputable def o446 (P : Params) : Obj := { cls := .type "getset_descriptor", data := Data.fields #[zs "__dict__" 667, .ref 395, .builtin "function.__dict__", .builtin "function.__dict__#set"] }
noncomputable def o447 (P : Params) : Obj := { cls := .type "getset_descriptor", data := Data.fields #[zs "__weakref__" 669, .ref 395, .builtin "ExceptionGroup.__weakref__", .none] }
noncomputable def o448 (P : Params) : Obj := { cls := .type "super", data := Data.fields #[.ref 395, .ref 395, .ref 395] }
noncomputable def o449 (P : Params) : Obj := { cls := .type "builtin_function_or_method", data := Data.fields #[.builtin "object.__init_subclass__", .ref 395] }
noncomputable def o450 (P : Params) : Obj := zd #[ze P "__name__" 165 (zs "alikeheap.story" 674), ze P "__doc__" 166 .none, ze P "__package__" 167 .none, ze P "__loader__" 168 (.builtin "__main__.__loader__#opaque"), ze P "__spec__" 169 .none, ze P "__annotations__" 170 (.ref 6), ze P "__builtins__" 171 (.ref 4), ze P "__file__" 173 (zs "/claim/cut.py" 172), ze P "__cached__" 174 .none, ze P "_wall" 193 (.ref 21), ze P "HeapError" 233 (.ref 47), ze P "TermFault" 249 (.ref 60), ze P "is_op" 257 (.ref 67), ze P "is_variable" 264 (.ref 74), ze P "parts" 270 (.ref 79), ze P "Bank" 401 (.ref 181), ze P "Unions" 505 (.ref 263), ze P "Heap" 673 (.ref 395), ze P "check_reason" 685 (.ref 406)] 19
noncomputable def o451 (P : Params) : Obj := zg #[.int 1 0, .int 0 0, .ref 20, .int 5 0, .int 0 0, .ref 28, .int 13 0, .int 0 0, .ref 56, .int 16 0, .int 0 0, .ref 66, .int 18 0, .int 0 0, .ref 73, .int 20 0, .int 0 0, .ref 78, .int 25 0, .int 0 0, .ref 85, .int 95 0, .int 0 0, .ref 191, .int 142 0, .int 0 0, .ref 273, .int 224 0, .int 0 0, .ref 405]
noncomputable def o454 (P : Params) : Obj := zt #[zs "reason" 679, zs "many" 680, zs "name" 681, zs "n" 682]
noncomputable def o456 (P : Params) : Obj := zh "check_reason" "check_reason" (parOf (top 14)) (kids (top 14)) (scoOf (top 14))
noncomputable def o457 (P : Params) : Obj := zc #[zs "check_reason" 676, zs "check_reason" 677, zs "/claim/cut.py" 678, .int 224 0, .int 2 0, .int 0 0, .int 0 0, .int 3 0, .ref 400, .bool true, .int 181 0, .ref 401, .none, .ref 402, .ref 403, .ref 404, .int 683 0, .int 224 0, zs "/claim/cut.py" 684]
noncomputable def o458 (P : Params) : Obj := zf "check_reason" "check_reason" (parOf (top 14)) (kids (top 14)) (scoOf (top 14)) "alikeheap.story" 674 405
noncomputable def o459 (P : Params) : Obj := zd #[ze P "__name__" 165 (zs "alikeheap.story" 674), ze P "__doc__" 166 .none, ze P "__package__" 167 .none, ze P "__loader__" 168 (.builtin "__main__.__loader__#opaque"), ze P "__spec__" 169 .none, ze P "__annotations__" 170 (.ref 6), ze P "__builtins__" 171 (.ref 4), ze P "__file__" 173 (zs "/claim/cut.py" 172), ze P "__cached__" 174 .none, ze P "_wall" 193 (.ref 21), ze P "HeapError" 233 (.ref 47), ze P "TermFault" 249 (.ref 60), ze P "is_op" 257 (.ref 67), ze P "is_variable" 264 (.ref 74), ze P "parts" 270 (.ref 79), ze P "Bank" 401 (.ref 181), ze P "Unions" 505 (.ref 263), ze P "Heap" 673 (.ref 395), ze P "check_reason" 685 (.ref 406), ze P "Written" 742 (.ref 449), ze P "row_text" 748 (.ref 456)] 21
noncomputable def o460 (P : Params) : Obj := zg #[.int 1 0, .int 0 0, .ref 20, .int 5 0, .int 0 0, .ref 28, .int 13 0, .int 0 0, .ref 56, .int 16 0, .int 0 0, .ref 66, .int 18 0, .int 0 0, .ref 73, .int 20 0, .int 0 0, .ref 78, .int 25 0, .int 0 0, .ref 85, .int 95 0, .int 0 0, .ref 191, .int 142 0, .int 0 0, .ref 273, .int 224 0, .int 0 0, .ref 405, .int 230 0, .int 0 0, .ref 413, .int 254 0, .int 0 0, .ref 455]
noncomputable def o461 (P : Params) : Obj := { cls := .type "type", data := Data.cls { name := Str.ofString "Heap", bases := [.type "object"], mro := [.ref 395, .type "object"], ns := 394, qualname := Str.ofString "Heap", subclasses := [.ref 449] }, slots := #[none, none, some (zs "Heap" 508), some (zs "Heap" 516), some (.builtin "object.__new__"), some (.bool true)] }
noncomputable def o462 (P : Params) : Obj := zt #[.ref 395]
noncomputable def o464 (P : Params) : Obj := zd #[ze P "__module__" 693 (zs "alikeheap.story" 674), ze P "__qualname__" 695 (zs "Written" 694), ze P "__firstlineno__" 697 (.int 230 696), ze P "__init__" 705 (.ref 422), ze P "add" 717 (.ref 430), ze P "merge" 728 (.ref 438), ze P "settle" 736 (.ref 446), ze P "__static_attributes__" 738 (.ref 447), ze P "__classcell__" 739 (.ref 410)] 9
noncomputable def o465 (P : Params) : Obj := { cls := .type "cell", data := Data.cell (some (.ref 449)) }
noncomputable def o467 (P : Params) : Obj := zg #[.int 232 0, .int 4 0, .ref 421, .int 236 0, .int 4 0, .ref 429, .int 243 0, .int 4 0, .ref 437, .int 250 0, .int 4 0, .ref 445]
noncomputable def o468 (P : Params) : Obj := zc #[zs "Written" 688, zs "Written" 689, zs "/claim/cut.py" 690, .int 230 0, .int 0 0, .int 0 0, .int 0 0, .int 0 0, .ref 411, .bool false, .int 181 0, .ref 412, .none, .none, .none, .none, .int 691 0, .int 230 0, zs "/claim/cut.py" 692]
noncomputable def o469 (P : Params) : Obj := { cls := .type "frame", slots := #[some (.ref 413), some (.ref 3), some (.ref 409), none, some (zs "alikeheap.story" 674), none, some (.ref 0)] }
noncomputable def o470 (P : Params) : Obj := zt #[.ref 410]
noncomputable def o471 (P : Params) : Obj := zt #[zs "__class__" 701]
noncomputable def o473 (P : Params) : Obj := zt #[zs "self" 702]
noncomputable def o475 (P : Params) : Obj := zh "__init__" "Written.__init__" (parOf (sub 15 0)) (kids (sub 15 0)) (scoOf (sub 15 0))
noncomputable def o476 (P : Params) : Obj := zc #[zs "__init__" 698, zs "Written.__init__" 699, zs "/claim/cut.py" 700, .int 232 0, .int 1 0, .int 0 0, .int 0 0, .int 3 0, .ref 416, .bool true, .int 181 0, .ref 417, .none, .ref 418, .ref 419, .ref 420, .int 703 0, .int 232 0, zs "/claim/cut.py" 704]
noncomputable def o477 (P : Params) : Obj := { cls := .type "function", data := Data.func { name := Str.ofString "__init__", qualname := Str.ofString "Written.__init__", params := parOf (sub 15 0), body := .stmts (kids (sub 15 0)), scope := scoOf (sub 15 0), globals := 3, closure := [(Str.ofString "__class__", 410)], defaults := .none, kwdefaults := .none, pyModule := zs "alikeheap.story" 674, code := .ref 421, closureTuple := .ref 415 } }
noncomputable def o479 (P : Params) : Obj := zt #[zs "__class__" 709]
noncomputable def o481 (P : Params) : Obj := zt #[zs "self" 710, zs "op" 711, zs "numbers" 712, zs "many" 713, zs "n" 714]
noncomputable def o483 (P : Params) : Obj := zh "add" "Written.add" (parOf (sub 15 1)) (kids (sub 15 1)) (scoOf (sub 15 1))
noncomputable def o484 (P : Params) : Obj := zc #[zs "add" 706, zs "Written.add" 707, zs "/claim/cut.py" 708, .int 236 0, .int 3 0, .int 0 0, .int 0 0, .int 3 0, .ref 424, .bool true, .int 181 0, .ref 425, .none, .ref 426, .ref 427, .ref 428, .int 715 0, .int 236 0, zs "/claim/cut.py" 716]
noncomputable def o485 (P : Params) : Obj := { cls := .type "function", data := Data.func { name := Str.ofString "add", qualname := Str.ofString "Written.add", params := parOf (sub 15 1), body := .stmts (kids (sub 15 1)), scope := scoOf (sub 15 1), globals := 3, closure := [(Str.ofString "__class__", 410)], defaults := .none, kwdefaults := .none, pyModule := zs "alikeheap.story" 674, code := .ref 429, closureTuple := .ref 423 } }
noncomputable def o487 (P : Params) : Obj := zt #[zs "__class__" 721]
noncomputable def o489 (P : Params) : Obj := zt #[zs "self" 722, zs "a" 723, zs "b" 724, zs "reason" 725]
noncomputable def o491 (P : Params) : Obj := zh "merge" "Written.merge" (parOf (sub 15 2)) (kids (sub 15 2)) (scoOf (sub 15 2))
noncomputable def o492 (P : Params) : Obj := zc #[zs "merge" 718, zs "Written.merge" 719, zs "/claim/cut.py" 720, .int 243 0, .int 4 0, .int 0 0, .int 0 0, .int 3 0, .ref 432, .bool true, .int 181 0, .ref 433, .none, .ref 434, .ref 435, .ref 436, .int 726 0, .int 243 0, zs "/claim/cut.py" 727]
noncomputable def o493 (P : Params) : Obj := { cls := .type "function", data := Data.func { name := Str.ofString "merge", qualname := Str.ofString "Written.merge", params := parOf (sub 15 2), body := .stmts (kids (sub 15 2)), scope := scoOf (sub 15 2), globals := 3, closure := [(Str.ofString "__class__", 410)], defaults := .none, kwdefaults := .none, pyModule := zs "alikeheap.story" 674, code := .ref 437, closureTuple := .ref 431 } }
noncomputable def o495 (P : Params) : Obj := zt #[zs "__class__" 732]
noncomputable def o497 (P : Params) : Obj := zt #[zs "self" 733]
noncomputable def o499 (P : Params) : Obj := zh "settle" "Written.settle" (parOf (sub 15 3)) (kids (sub 15 3)) (scoOf (sub 15 0))
noncomputable def o500 (P : Params) : Obj := zc #[zs "settle" 729, zs "Written.settle" 730, zs "/claim/cut.py" 731, .int 250 0, .int 1 0, .int 0 0, .int 0 0, .int 3 0, .ref 440, .bool true, .int 181 0, .ref 441, .none, .ref 442, .ref 443, .ref 444, .int 734 0, .int 250 0, zs "/claim/cut.py" 735]
noncomputable def o501 (P : Params) : Obj := { cls := .type "function", data := Data.func { name := Str.ofString "settle", qualname := Str.ofString "Written.settle", params := parOf (sub 15 3), body := .stmts (kids (sub 15 3)), scope := scoOf (sub 15 0), globals := 3, closure := [(Str.ofString "__class__", 410)], defaults := .none, kwdefaults := .none, pyModule := zs "alikeheap.story" 674, code := .ref 445, closureTuple := .ref 439 } }
noncomputable def o502 (P : Params) : Obj := zt #[zs "rows" 737]
noncomputable def o503 (P : Params) : Obj := zd #[ze P "__module__" 693 (zs "alikeheap.story" 674), ze P "__firstlineno__" 697 (.int 230 696), ze P "__init__" 705 (.ref 422), ze P "add" 717 (.ref 430), ze P "merge" 728 (.ref 438), ze P "settle" 736 (.ref 446), ze P "__static_attributes__" 738 (.ref 447), ze P "__doc__" 740 .none] 3
noncomputable def o504 (P : Params) : Obj := { cls := .type "type", data := Data.cls { name := Str.ofString "Written", bases := [.ref 395], mro := [.ref 449, .ref 395, .type "object"], ns := 448, qualname := Str.ofString "Written" }, slots := #[some (.ref 407), none, some (zs "Written" 686), some (zs "Written" 694), some (.builtin "object.__new__"), some (.bool true)] }
noncomputable def o505 (P : Params) : Obj := { cls := .type "super", data := Data.fields #[.ref 449, .ref 449, .ref 449] }
noncomputable def o506 (P : Params) : Obj := { cls := .type "builtin_function_or_method", data := Data.fields #[.builtin "object.__init_subclass__", .ref 449] }
noncomputable def o509 (P : Params) : Obj := zh "row_text" "row_text" (parOf (top 16)) (kids (top 16)) (scoOf (top 16))
noncomputable def o510 (P : Params) : Obj := zc #[zs "row_text" 743, zs "row_text" 744, zs "/claim/cut.py" 745, .int 254 0, .int 1 0, .int 0 0, .int 0 0, .int 3 0, .ref 452, .bool true, .int 181 0, .ref 453, .none, .none, .none, .ref 454, .int 746 0, .int 254 0, zs "/claim/cut.py" 747]
noncomputable def o511 (P : Params) : Obj := zf "row_text" "row_text" (parOf (top 16)) (kids (top 16)) (scoOf (top 16)) "alikeheap.story" 674 455
noncomputable def o512 (P : Params) : Obj := zd #[ze P "__name__" 165 (zs "alikeheap.story" 674), ze P "__doc__" 166 .none, ze P "__package__" 167 .none, ze P "__loader__" 168 (.builtin "__main__.__loader__#opaque"), ze P "__spec__" 169 .none, ze P "__annotations__" 170 (.ref 6), ze P "__builtins__" 171 (.ref 4), ze P "__file__" 173 (zs "/claim/cut.py" 172), ze P "__cached__" 174 .none, ze P "_wall" 193 (.ref 21), ze P "HeapError" 233 (.ref 47), ze P "TermFault" 249 (.ref 60), ze P "is_op" 257 (.ref 67), ze P "is_variable" 264 (.ref 74), ze P "parts" 270 (.ref 79), ze P "Bank" 401 (.ref 181), ze P "Unions" 505 (.ref 263), ze P "Heap" 673 (.ref 395), ze P "check_reason" 685 (.ref 406), ze P "Written" 742 (.ref 449), ze P "row_text" 748 (.ref 456), ze P "Story" 843 (.ref 527)] 22
noncomputable def o513 (P : Params) : Obj := zg #[.int 1 0, .int 0 0, .ref 20, .int 5 0, .int 0 0, .ref 28, .int 13 0, .int 0 0, .ref 56, .int 16 0, .int 0 0, .ref 66, .int 18 0, .int 0 0, .ref 73, .int 20 0, .int 0 0, .ref 78, .int 25 0, .int 0 0, .ref 85, .int 95 0, .int 0 0, .ref 191, .int 142 0, .int 0 0, .ref 273, .int 224 0, .int 0 0, .ref 405, .int 230 0, .int 0 0, .ref 413, .int 254 0, .int 0 0, .ref 455, .int 262 0, .int 0 0, .ref 462]
noncomputable def o516 (P : Params) : Obj := zd #[ze P "__module__" 756 (zs "alikeheap.story" 674), ze P "__qualname__" 758 (zs "Story" 757), ze P "__firstlineno__" 760 (.int 262 759), ze P "__init__" 767 (.ref 470), ze P "put" 775 (.ref 477), ze P "merge" 785 (.ref 484), ze P "settle" 792 (.ref 491), ze P "rows" 799 (.ref 498), ze P "text" 805 (.ref 503), ze P "back" 815 (.ref 510), ze P "do" 823 (.ref 517), ze P "alike_with" 834 (.ref 524), ze P "__static_attributes__" 836 (.ref 525)] 13
noncomputable def o518 (P : Params) : Obj := zg #[.int 264 0, .int 4 0, .ref 469, .int 267 0, .int 4 0, .ref 476, .int 270 0, .int 4 0, .ref 483, .int 273 0, .int 4 0, .ref 490, .int 276 0, .int 4 0, .ref 497, .int 279 0, .int 4 0, .ref 502, .int 282 0, .int 4 0, .ref 509, .int 288 0, .int 4 0, .ref 516, .int 296 0, .int 4 0, .ref 523]
noncomputable def o519 (P : Params) : Obj := zc #[zs "Story" 751, zs "Story" 752, zs "/claim/cut.py" 753, .int 262 0, .int 0 0, .int 0 0, .int 0 0, .int 0 0, .ref 460, .bool false, .int 181 0, .ref 461, .none, .none, .none, .none, .int 754 0, .int 262 0, zs "/claim/cut.py" 755]
noncomputable def o520 (P : Params) : Obj := { cls := .type "frame", slots := #[some (.ref 462), some (.ref 3), some (.ref 459), none, some (zs "alikeheap.story" 674), none, some (.ref 0)] }
noncomputable def o523 (P : Params) : Obj := zt #[zs "self" 764]
noncomputable def o525 (P : Params) : Obj := zh "__init__" "Story.__init__" (parOf (sub 17 0)) (kids (sub 17 0)) (scoOf (sub 17 0))
noncomputable def o526 (P : Params) : Obj := zc #[zs "__init__" 761, zs "Story.__init__" 762, zs "/claim/cut.py" 763, .int 264 0, .int 1 0, .int 0 0, .int 0 0, .int 3 0, .ref 464, .bool true, .int 181 0, .ref 465, .none, .ref 466, .ref 467, .ref 468, .int 765 0, .int 264 0, zs "/claim/cut.py" 766]
noncomputable def o527 (P : Params) : Obj := zf "__init__" "Story.__init__" (parOf (sub 17 0)) (kids (sub 17 0)) (scoOf (sub 17 0)) "alikeheap.story" 674 469
noncomputable def o530 (P : Params) : Obj := zt #[zs "self" 771, zs "term" 772]
noncomputable def o532 (P : Params) : Obj := zh "put" "Story.put" (parOf (sub 17 1)) (kids (sub 17 1)) (scoOf (sub 17 1))
noncomputable def o533 (P : Params) : Obj := zc #[zs "put" 768, zs "Story.put" 769, zs "/claim/cut.py" 770, .int 267 0, .int 2 0, .int 0 0, .int 0 0, .int 3 0, .ref 471, .bool true, .int 181 0, .ref 472, .none, .ref 473, .ref 474, .ref 475, .int 773 0, .int 267 0, zs "/claim/cut.py" 774]
noncomputable def o534 (P : Params) : Obj := zf "put" "Story.put" (parOf (sub 17 1)) (kids (sub 17 1)) (scoOf (sub 17 1)) "alikeheap.story" 674 476
noncomputable def o537 (P : Params) : Obj := zt #[zs "self" 779, zs "a" 780, zs "b" 781, zs "reason" 782]
noncomputable def o539 (P : Params) : Obj := zh "merge" "Story.merge" (parOf (sub 17 2)) (kids (sub 17 2)) (scoOf (sub 12 8))
noncomputable def o540 (P : Params) : Obj := zc #[zs "merge" 776, zs "Story.merge" 777, zs "/claim/cut.py" 778, .int 270 0, .int 4 0, .int 0 0, .int 0 0, .int 3 0, .ref 478, .bool true, .int 181 0, .ref 479, .none, .ref 480, .ref 481, .ref 482, .int 783 0, .int 270 0, zs "/claim/cut.py" 784]
noncomputable def o541 (P : Params) : Obj := zf "merge" "Story.merge" (parOf (sub 17 2)) (kids (sub 17 2)) (scoOf (sub 12 8)) "alikeheap.story" 674 483
noncomputable def o544 (P : Params) : Obj := zt #[zs "self" 789]
noncomputable def o546 (P : Params) : Obj := zh "settle" "Story.settle" (parOf (sub 17 3)) (kids (sub 17 3)) (scoOf (sub 2 1))
noncomputable def o547 (P : Params) : Obj := zc #[zs "settle" 786, zs "Story.settle" 787, zs "/claim/cut.py" 788, .int 273 0, .int 1 0, .int 0 0, .int 0 0, .int 3 0, .ref 485, .bool true, .int 181 0, .ref 486, .none, .ref 487, .ref 488, .ref 489, .int 790 0, .int 273 0, zs "/claim/cut.py" 791]
noncomputable def o548 (P : Params) : Obj := zf "settle" "Story.settle" (parOf (sub 17 3)) (kids (sub 17 3)) (scoOf (sub 2 1)) "alikeheap.story" 674 490
noncomputable def o551 (P : Params) : Obj := zt #[zs "self" 796]
noncomputable def o553 (P : Params) : Obj := zh "rows" "Story.rows" (parOf (sub 17 4)) (kids (sub 17 4)) (scoOf (sub 17 4))
noncomputable def o554 (P : Params) : Obj := zc #[zs "rows" 793, zs "Story.rows" 794, zs "/claim/cut.py" 795, .int 276 0, .int 1 0, .int 0 0, .int 0 0, .int 3 0, .ref 492, .bool true, .int 181 0, .ref 493, .none, .ref 494, .ref 495, .ref 496, .int 797 0, .int 276 0, zs "/claim/cut.py" 798]
noncomputable def o555 (P : Params) : Obj := zf "rows" "Story.rows" (parOf (sub 17 4)) (kids (sub 17 4)) (scoOf (sub 17 4)) "alikeheap.story" 674 497
noncomputable def o558 (P : Params) : Obj := zh "text" "Story.text" (parOf (sub 17 5)) (kids (sub 17 5)) (scoOf (sub 17 5))
noncomputable def o559 (P : Params) : Obj := zc #[zs "text" 800, zs "Story.text" 801, zs "/claim/cut.py" 802, .int 279 0, .int 1 0, .int 0 0, .int 0 0, .int 3 0, .ref 499, .bool true, .int 181 0, .ref 500, .none, .none, .none, .ref 501, .int 803 0, .int 279 0, zs "/claim/cut.py" 804]
noncomputable def o560 (P : Params) : Obj := zf "text" "Story.text" (parOf (sub 17 5)) (kids (sub 17 5)) (scoOf (sub 17 5)) "alikeheap.story" 674 502
noncomputable def o563 (P : Params) : Obj := zt #[zs "self" 809, zs "many" 810, zs "rows" 811, zs "row" 812]
noncomputable def o565 (P : Params) : Obj := zh "back" "Story.back" (parOf (sub 17 6)) (kids (sub 17 6)) (scoOf (sub 17 6))
noncomputable def o566 (P : Params) : Obj := zc #[zs "back" 806, zs "Story.back" 807, zs "/claim/cut.py" 808, .int 282 0, .int 2 0, .int 0 0, .int 0 0, .int 3 0, .ref 504, .bool true, .int 181 0, .ref 505, .none, .ref 506, .ref 507, .ref 508, .int 813 0, .int 282 0, zs "/claim/cut.py" 814]
noncomputable def o567 (P : Params) : Obj := zf "back" "Story.back" (parOf (sub 17 6)) (kids (sub 17 6)) (scoOf (sub 17 6)) "alikeheap.story" 674 509
noncomputable def o570 (P : Params) : Obj := zt #[zs "self" 819, zs "row" 820]
noncomputable def o572 (P : Params) : Obj := zh "do" "Story.do" (parOf (sub 17 7)) (kids (sub 17 7)) (scoOf (sub 17 7))
noncomputable def o573 (P : Params) : Obj := zc #[zs "do" 816, zs "Story.do" 817, zs "/claim/cut.py" 818, .int 288 0, .int 2 0, .int 0 0, .int 0 0, .int 3 0, .ref 511, .bool true, .int 181 0, .ref 512, .none, .ref 513, .ref 514, .ref 515, .int 821 0, .int 288 0, zs "/claim/cut.py" 822]
noncomputable def o574 (P : Params) : Obj := zf "do" "Story.do" (parOf (sub 17 7)) (kids (sub 17 7)) (scoOf (sub 17 7)) "alikeheap.story" 674 516
noncomputable def o577 (P : Params) : Obj := zt #[zs "self" 827, zs "other" 828, zs "mine" 829, zs "late" 830, zs "k" 831]
noncomputable def o579 (P : Params) : Obj := zh "alike_with" "Story.alike_with" (parOf (sub 17 8)) (kids (sub 17 8)) (scoOf (sub 17 8))
noncomputable def o580 (P : Params) : Obj := zc #[zs "alike_with" 824, zs "Story.alike_with" 825, zs "/claim/cut.py" 826, .int 296 0, .int 2 0, .int 0 0, .int 0 0, .int 3 0, .ref 518, .bool true, .int 181 0, .ref 519, .none, .ref 520, .ref 521, .ref 522, .int 832 0, .int 296 0, zs "/claim/cut.py" 833]
noncomputable def o581 (P : Params) : Obj := zf "alike_with" "Story.alike_with" (parOf (sub 17 8)) (kids (sub 17 8)) (scoOf (sub 17 8)) "alikeheap.story" 674 523
noncomputable def o582 (P : Params) : Obj := zt #[zs "heap" 835]
noncomputable def o583 (P : Params) : Obj := zd #[ze P "__module__" 756 (zs "alikeheap.story" 674), ze P "__firstlineno__" 760 (.int 262 759), ze P "__init__" 767 (.ref 470), ze P "put" 775 (.ref 477), ze P "merge" 785 (.ref 484), ze P "settle" 792 (.ref 491), ze P "rows" 799 (.ref 498), ze P "text" 805 (.ref 503), ze P "back" 815 (.ref 510), ze P "do" 823 (.ref 517), ze P "alike_with" 834 (.ref 524), ze P "__static_attributes__" 836 (.ref 525), ze P "__dict__" 838 (.ref 528), ze P "__weakref__" 840 (.ref 529), ze P "__doc__" 841 .none] 4
noncomputable def o584 (P : Params) : Obj := { cls := .type "type", data := Data.cls { name := Str.ofString "Story", bases := [.type "object"], mro := [.ref 527, .type "object"], ns := 526, qualname := Str.ofString "Story" }, slots := #[none, none, some (zs "Story" 749), some (zs "Story" 757), some (.builtin "object.__new__"), some (.bool true)] }
noncomputable def o585 (P : Params) : Obj := { cls := .type "getset_descriptor", data := Data.fields #[zs "__dict__" 837, .ref 527, .builtin "function.__dict__", .builtin "function.__dict__#set"] }
noncomputable def o586 (P : Params) : Obj := { cls := .type "getset_descriptor", data := Data.fields #[zs "__weakref__" 839, .ref 527, .builtin "ExceptionGroup.__weakref__", .none] }
noncomputable def o587 (P : Params) : Obj := { cls := .type "super", data := Data.fields #[.ref 527, .ref 527, .ref 527] }
noncomputable def o588 (P : Params) : Obj := { cls := .type "builtin_function_or_method", data := Data.fields #[.builtin "object.__init_subclass__", .ref 527] }
noncomputable def o589 (P : Params) : Obj := zd #[ze P "__name__" 165 (zs "law_pq0074_01" 844), ze P "__doc__" 166 .none, ze P "__package__" 167 .none, ze P "__loader__" 168 (.builtin "__main__.__loader__#opaque"), ze P "__spec__" 169 .none, ze P "__annotations__" 170 (.ref 6), ze P "__builtins__" 171 (.ref 4), ze P "__file__" 173 (zs "/claim/cut.py" 172), ze P "__cached__" 174 .none, ze P "_wall" 193 (.ref 21), ze P "HeapError" 233 (.ref 47), ze P "TermFault" 249 (.ref 60), ze P "is_op" 257 (.ref 67), ze P "is_variable" 264 (.ref 74), ze P "parts" 270 (.ref 79), ze P "Bank" 401 (.ref 181), ze P "Unions" 505 (.ref 263), ze P "Heap" 673 (.ref 395), ze P "check_reason" 685 (.ref 406), ze P "Written" 742 (.ref 449), ze P "row_text" 748 (.ref 456), ze P "Story" 843 (.ref 527), ze P "_law_draw" 854 (.ref 538), ze P "_law_tree" 860 (.ref 543), ze P "_law_written" 866 (.ref 548), ze P "_law_is_merged_right" 880 (.ref 555), ze P "_law_is_refused" 895 (.ref 562), ze P "_law_is_done_right" 908 (.ref 569), ze P "_law_state" 914 (.ref 574), ze P "law" 932 (.ref 581)] 30
noncomputable def o590 (P : Params) : Obj := zg #[.int 1 0, .int 0 0, .ref 20, .int 5 0, .int 0 0, .ref 28, .int 13 0, .int 0 0, .ref 56, .int 16 0, .int 0 0, .ref 66, .int 18 0, .int 0 0, .ref 73, .int 20 0, .int 0 0, .ref 78, .int 25 0, .int 0 0, .ref 85, .int 95 0, .int 0 0, .ref 191, .int 142 0, .int 0 0, .ref 273, .int 224 0, .int 0 0, .ref 405, .int 230 0, .int 0 0, .ref 413, .int 254 0, .int 0 0, .ref 455, .int 262 0, .int 0 0, .ref 462, .int 303 0, .int 0 0, .ref 537, .int 309 0, .int 0 0, .ref 542, .int 314 0, .int 0 0, .ref 547, .int 320 0, .int 0 0, .ref 554, .int 326 0, .int 0 0, .ref 561, .int 335 0, .int 0 0, .ref 568, .int 349 0, .int 0 0, .ref 573, .int 352 0, .int 0 0, .ref 580]
noncomputable def o593 (P : Params) : Obj := zt #[zs "feed" 849, zs "wide" 850, zs "k" 851]
noncomputable def o595 (P : Params) : Obj := zh "_law_draw" "_law_draw" (parOf (top 19)) (kids (top 19)) (scoOf (top 19))
noncomputable def o596 (P : Params) : Obj := zc #[zs "_law_draw" 846, zs "_law_draw" 847, zs "/claim/cut.py" 848, .int 303 0, .int 2 0, .int 0 0, .int 0 0, .int 3 0, .ref 532, .bool true, .int 181 0, .ref 533, .none, .ref 534, .ref 535, .ref 536, .int 852 0, .int 303 0, zs "/claim/cut.py" 853]
noncomputable def o597 (P : Params) : Obj := zf "_law_draw" "_law_draw" (parOf (top 19)) (kids (top 19)) (scoOf (top 19)) "law_pq0074_01" 844 537
noncomputable def o600 (P : Params) : Obj := zh "_law_tree" "_law_tree" (parOf (top 20)) (kids (top 20)) (scoOf (top 20))
noncomputable def o601 (P : Params) : Obj := zc #[zs "_law_tree" 855, zs "_law_tree" 856, zs "/claim/cut.py" 857, .int 309 0, .int 2 0, .int 0 0, .int 0 0, .int 3 0, .ref 539, .bool true, .int 181 0, .ref 540, .none, .none, .none, .ref 541, .int 858 0, .int 309 0, zs "/claim/cut.py" 859]
noncomputable def o602 (P : Params) : Obj := zf "_law_tree" "_law_tree" (parOf (top 20)) (kids (top 20)) (scoOf (top 20)) "law_pq0074_01" 844 542
noncomputable def o605 (P : Params) : Obj := zh "_law_written" "_law_written" (parOf (top 21)) (kids (top 21)) (scoOf (top 21))
noncomputable def o606 (P : Params) : Obj := zc #[zs "_law_written" 861, zs "_law_written" 862, zs "/claim/cut.py" 863, .int 314 0, .int 3 0, .int 0 0, .int 0 0, .int 3 0, .ref 544, .bool true, .int 181 0, .ref 545, .none, .none, .none, .ref 546, .int 864 0, .int 314 0, zs "/claim/cut.py" 865]
noncomputable def o607 (P : Params) : Obj := zf "_law_written" "_law_written" (parOf (top 21)) (kids (top 21)) (scoOf (top 21)) "law_pq0074_01" 844 547
noncomputable def o610 (P : Params) : Obj := zt #[zs "feed" 870, zs "story" 871, zs "nodes" 872, zs "rows" 873, zs "a" 874, zs "b" 875, zs "reason" 876, zs "were_two" 877]
noncomputable def o612 (P : Params) : Obj := zh "_law_is_merged_right" "_law_is_merged_right" (parOf (top 22)) (kids (top 22)) (scoOf (top 22))
noncomputable def o613 (P : Params) : Obj := zc #[zs "_law_is_merged_right" 867, zs "_law_is_merged_right" 868, zs "/claim/cut.py" 869, .int 320 0, .int 4 0, .int 0 0, .int 0 0, .int 3 0, .ref 549, .bool true, .int 181 0, .ref 550, .none, .ref 551, .ref 552, .ref 553, .int 878 0, .int 320 0, zs "/claim/cut.py" 879]
noncomputable def o614 (P : Params) : Obj := zf "_law_is_merged_right" "_law_is_merged_right" (parOf (top 22)) (kids (top 22)) (scoOf (top 22)) "law_pq0074_01" 844 554
noncomputable def o617 (P : Params) : Obj := zt #[zs "feed" 884, zs "story" 885, zs "nodes" 886, zs "a" 887, zs "far" 888, zs "some" 889, zs "one" 890, zs "other" 891, zs "reason" 892]
noncomputable def o619 (P : Params) : Obj := zh "_law_is_refused" "_law_is_refused" (parOf (top 23)) (kids (top 23)) (scoOf (top 23))
noncomputable def o620 (P : Params) : Obj := zc #[zs "_law_is_refused" 881, zs "_law_is_refused" 882, zs "/claim/cut.py" 883, .int 326 0, .int 3 0, .int 0 0, .int 0 0, .int 3 0, .ref 556, .bool true, .int 181 0, .ref 557, .none, .ref 558, .ref 559, .ref 560, .int 893 0, .int 326 0, zs "/claim/cut.py" 894]
noncomputable def o621 (P : Params) : Obj := zf "_law_is_refused" "_law_is_refused" (parOf (top 23)) (kids (top 23)) (scoOf (top 23)) "law_pq0074_01" 844 561
noncomputable def o624 (P : Params) : Obj := zt #[zs "feed" 899, zs "story" 900, zs "nodes" 901, zs "rows" 902, zs "way" 903, zs "tree" 904, zs "got" 905]
noncomputable def o626 (P : Params) : Obj := zh "_law_is_done_right" "_law_is_done_right" (parOf (top 24)) (kids (top 24)) (scoOf (top 24))
noncomputable def o627 (P : Params) : Obj := zc #[zs "_law_is_done_right" 896, zs "_law_is_done_right" 897, zs "/claim/cut.py" 898, .int 335 0, .int 4 0, .int 0 0, .int 0 0, .int 3 0, .ref 563, .bool true, .int 181 0, .ref 564, .none, .ref 565, .ref 566, .ref 567, .int 906 0, .int 335 0, zs "/claim/cut.py" 907]
noncomputable def o628 (P : Params) : Obj := zf "_law_is_done_right" "_law_is_done_right" (parOf (top 24)) (kids (top 24)) (scoOf (top 24)) "law_pq0074_01" 844 568
noncomputable def o631 (P : Params) : Obj := zh "_law_state" "_law_state" (parOf (top 25)) (kids (top 25)) (scoOf (top 25))
noncomputable def o632 (P : Params) : Obj := zc #[zs "_law_state" 909, zs "_law_state" 910, zs "/claim/cut.py" 911, .int 349 0, .int 1 0, .int 0 0, .int 0 0, .int 3 0, .ref 570, .bool true, .int 181 0, .ref 571, .none, .none, .none, .ref 572, .int 912 0, .int 349 0, zs "/claim/cut.py" 913]
noncomputable def o633 (P : Params) : Obj := zf "_law_state" "_law_state" (parOf (top 25)) (kids (top 25)) (scoOf (top 25)) "law_pq0074_01" 844 573
noncomputable def o636 (P : Params) : Obj := zt #[zs "script" 918, zs "feed" 919, zs "story" 920, zs "nodes" 921, zs "rows" 922, zs "states" 923, zs "lap" 924, zs "other" 925, zs "row" 926, zs "then" 927, zs "many" 928, zs "due" 929]
noncomputable def o638 (P : Params) : Obj := zh "law" "law" (parOf (top 26)) (kids (top 26)) (scoOf (top 26))
noncomputable def o639 (P : Params) : Obj := zc #[zs "law" 915, zs "law" 916, zs "/claim/cut.py" 917, .int 352 0, .int 1 0, .int 0 0, .int 0 0, .int 3 0, .ref 575, .bool true, .int 181 0, .ref 576, .none, .ref 577, .ref 578, .ref 579, .int 930 0, .int 352 0, zs "/claim/cut.py" 931]
noncomputable def o640 (P : Params) : Obj := zf "law" "law" (parOf (top 26)) (kids (top 26)) (scoOf (top 26)) "law_pq0074_01" 844 580
noncomputable def qb0 : List Stmt := by
  refine' (?f : (b : List Stmt) → b = kids (top 0) → List Stmt) _ ?h; walk_at "QR"
noncomputable def qb10_0 : List Stmt := by
  refine' (?f : (b : List Stmt) → b = kids (sub 10 0) → List Stmt) _ ?h; walk_at "QR"
noncomputable def qb10_1 : List Stmt := by
  refine' (?f : (b : List Stmt) → b = kids (sub 10 1) → List Stmt) _ ?h; walk_at "QR"
noncomputable def qb10_2 : List Stmt := by
  refine' (?f : (b : List Stmt) → b = kids (sub 10 2) → List Stmt) _ ?h; walk_at "QR"
noncomputable def qb10_3 : List Stmt := by
  refine' (?f : (b : List Stmt) → b = kids (sub 10 3) → List Stmt) _ ?h; walk_at "QR"
noncomputable def qb10_4 : List Stmt := by
  refine' (?f : (b : List Stmt) → b = kids (sub 10 4) → List Stmt) _ ?h; walk_at "QR"
noncomputable def qb10_5 : List Stmt := by
  refine' (?f : (b : List Stmt) → b = kids (sub 10 5) → List Stmt) _ ?h; walk_at "QR"
noncomputable def qb10_6 : List Stmt := by
  refine' (?f : (b : List Stmt) → b = kids (sub 10 6) → List Stmt) _ ?h; walk_at "QR"
noncomputable def qb10_7 : List Stmt := by
  refine' (?f : (b : List Stmt) → b = kids (sub 10 7) → List Stmt) _ ?h; walk_at "QR"
noncomputable def qb10_8 : List Stmt := by
  refine' (?f : (b : List Stmt) → b = kids (sub 10 8) → List Stmt) _ ?h; walk_at "QR"
noncomputable def qb10_9 : List Stmt := by
  refine' (?f : (b : List Stmt) → b = kids (sub 10 9) → List Stmt) _ ?h; walk_at "QR"
noncomputable def qb12_0 : List Stmt := by
  refine' (?f : (b : List Stmt) → b = kids (sub 12 0) → List Stmt) _ ?h; walk_at "QR"
noncomputable def qb12_1 : List Stmt := by
  refine' (?f : (b : List Stmt) → b = kids (sub 12 1) → List Stmt) _ ?h; walk_at "QR"
noncomputable def qb12_10 : List Stmt := by
  refine' (?f : (b : List Stmt) → b = kids (sub 12 10) → List Stmt) _ ?h; walk_at "QR"
noncomputable def qb12_11 : List Stmt := by
  refine' (?f : (b : List Stmt) → b = kids (sub 12 11) → List Stmt) _ ?h; walk_at "QR"
noncomputable def qb12_12 : List Stmt := by
  refine' (?f : (b : List Stmt) → b = kids (sub 12 12) → List Stmt) _ ?h; walk_at "QR"
noncomputable def qb12_13 : List Stmt := by
  refine' (?f : (b : List Stmt) → b = kids (sub 12 13) → List Stmt) _ ?h; walk_at "QR"
noncomputable def qb12_14 : List Stmt := by
  refine' (?f : (b : List Stmt) → b = kids (sub 12 14) → List Stmt) _ ?h; walk_at "QR"
noncomputable def qb12_15 : List Stmt := by
  refine' (?f : (b : List Stmt) → b = kids (sub 12 15) → List Stmt) _ ?h; walk_at "QR"
noncomputable def qb12_16 : List Stmt := by
  refine' (?f : (b : List Stmt) → b = kids (sub 12 16) → List Stmt) _ ?h; walk_at "QR"
noncomputable def qb12_17 : List Stmt := by
  refine' (?f : (b : List Stmt) → b = kids (sub 12 17) → List Stmt) _ ?h; walk_at "QR"
noncomputable def qb12_2 : List Stmt := by
  refine' (?f : (b : List Stmt) → b = kids (sub 12 2) → List Stmt) _ ?h; walk_at "QR"
noncomputable def qb12_3 : List Stmt := by
  refine' (?f : (b : List Stmt) → b = kids (sub 12 3) → List Stmt) _ ?h; walk_at "QR"
noncomputable def qb12_4 : List Stmt := by
  refine' (?f : (b : List Stmt) → b = kids (sub 12 4) → List Stmt) _ ?h; walk_at "QR"
noncomputable def qb12_5 : List Stmt := by
  refine' (?f : (b : List Stmt) → b = kids (sub 12 5) → List Stmt) _ ?h; walk_at "QR"
noncomputable def qb12_6 : List Stmt := by
  refine' (?f : (b : List Stmt) → b = kids (sub 12 6) → List Stmt) _ ?h; walk_at "QR"
noncomputable def qb12_7 : List Stmt := by
  refine' (?f : (b : List Stmt) → b = kids (sub 12 7) → List Stmt) _ ?h; walk_at "QR"
noncomputable def qb12_8 : List Stmt := by
  refine' (?f : (b : List Stmt) → b = kids (sub 12 8) → List Stmt) _ ?h; walk_at "QR"
noncomputable def qb12_9 : List Stmt := by
  refine' (?f : (b : List Stmt) → b = kids (sub 12 9) → List Stmt) _ ?h; walk_at "QR"
noncomputable def qb14 : List Stmt := by
  refine' (?f : (b : List Stmt) → b = kids (top 14) → List Stmt) _ ?h; walk_at "QR"
noncomputable def qb15_0 : List Stmt := by
  refine' (?f : (b : List Stmt) → b = kids (sub 15 0) → List Stmt) _ ?h; walk_at "QR"
noncomputable def qb15_1 : List Stmt := by
  refine' (?f : (b : List Stmt) → b = kids (sub 15 1) → List Stmt) _ ?h; walk_at "QR"
noncomputable def qb15_2 : List Stmt := by
  refine' (?f : (b : List Stmt) → b = kids (sub 15 2) → List Stmt) _ ?h; walk_at "QR"
noncomputable def qb15_3 : List Stmt := by
  refine' (?f : (b : List Stmt) → b = kids (sub 15 3) → List Stmt) _ ?h; walk_at "QR"
noncomputable def qb16 : List Stmt := by
  refine' (?f : (b : List Stmt) → b = kids (top 16) → List Stmt) _ ?h; walk_at "QR"
noncomputable def qb17_0 : List Stmt := by
  refine' (?f : (b : List Stmt) → b = kids (sub 17 0) → List Stmt) _ ?h; walk_at "QR"
noncomputable def qb17_1 : List Stmt := by
  refine' (?f : (b : List Stmt) → b = kids (sub 17 1) → List Stmt) _ ?h; walk_at "QR"
noncomputable def qb17_2 : List Stmt := by
  refine' (?f : (b : List Stmt) → b = kids (sub 17 2) → List Stmt) _ ?h; walk_at "QR"
noncomputable def qb17_3 : List Stmt := by
  refine' (?f : (b : List Stmt) → b = kids (sub 17 3) → List Stmt) _ ?h; walk_at "QR"
noncomputable def qb17_4 : List Stmt := by
  refine' (?f : (b : List Stmt) → b = kids (sub 17 4) → List Stmt) _ ?h; walk_at "QR"
noncomputable def qb17_5 : List Stmt := by
  refine' (?f : (b : List Stmt) → b = kids (sub 17 5) → List Stmt) _ ?h; walk_at "QR"
noncomputable def qb17_6 : List Stmt := by
  refine' (?f : (b : List Stmt) → b = kids (sub 17 6) → List Stmt) _ ?h; walk_at "QR"
noncomputable def qb17_7 : List Stmt := by
  refine' (?f : (b : List Stmt) → b = kids (sub 17 7) → List Stmt) _ ?h; walk_at "QR"
noncomputable def qb17_8 : List Stmt := by
  refine' (?f : (b : List Stmt) → b = kids (sub 17 8) → List Stmt) _ ?h; walk_at "QR"
noncomputable def qb19 : List Stmt := by
  refine' (?f : (b : List Stmt) → b = kids (top 19) → List Stmt) _ ?h; walk_at "QR"
noncomputable def qb20 : List Stmt := by
  refine' (?f : (b : List Stmt) → b = kids (top 20) → List Stmt) _ ?h; walk_at "QR"
noncomputable def qb21 : List Stmt := by
  refine' (?f : (b : List Stmt) → b = kids (top 21) → List Stmt) _ ?h; walk_at "QR"
noncomputable def qb22 : List Stmt := by
  refine' (?f : (b : List Stmt) → b = kids (top 22) → List Stmt) _ ?h; walk_at "QR"
noncomputable def qb23 : List Stmt := by
  refine' (?f : (b : List Stmt) → b = kids (top 23) → List Stmt) _ ?h; walk_at "QR"
noncomputable def qb24 : List Stmt := by
  refine' (?f : (b : List Stmt) → b = kids (top 24) → List Stmt) _ ?h; walk_at "QR"
noncomputable def qb25 : List Stmt := by
  refine' (?f : (b : List Stmt) → b = kids (top 25) → List Stmt) _ ?h; walk_at "QR"
noncomputable def qb26 : List Stmt := by
  refine' (?f : (b : List Stmt) → b = kids (top 26) → List Stmt) _ ?h; walk_at "QR"
noncomputable def qb2_0 : List Stmt := by
  refine' (?f : (b : List Stmt) → b = kids (sub 2 0) → List Stmt) _ ?h; walk_at "QR"
noncomputable def qb2_1 : List Stmt := by
  refine' (?f : (b : List Stmt) → b = kids (sub 2 1) → List Stmt) _ ?h; walk_at "QR"
noncomputable def qb5 : List Stmt := by
  refine' (?f : (b : List Stmt) → b = kids (top 5) → List Stmt) _ ?h; walk_at "QR"
noncomputable def qb6 : List Stmt := by
  refine' (?f : (b : List Stmt) → b = kids (top 6) → List Stmt) _ ?h; walk_at "QR"
noncomputable def qb7 : List Stmt := by
  refine' (?f : (b : List Stmt) → b = kids (top 7) → List Stmt) _ ?h; walk_at "QR"
noncomputable def qb8_0 : List Stmt := by
  refine' (?f : (b : List Stmt) → b = kids (sub 8 0) → List Stmt) _ ?h; walk_at "QR"
noncomputable def qb8_1 : List Stmt := by
  refine' (?f : (b : List Stmt) → b = kids (sub 8 1) → List Stmt) _ ?h; walk_at "QR"
noncomputable def qb8_10 : List Stmt := by
  refine' (?f : (b : List Stmt) → b = kids (sub 8 10) → List Stmt) _ ?h; walk_at "QR"
noncomputable def qb8_11 : List Stmt := by
  refine' (?f : (b : List Stmt) → b = kids (sub 8 11) → List Stmt) _ ?h; walk_at "QR"
noncomputable def qb8_12 : List Stmt := by
  refine' (?f : (b : List Stmt) → b = kids (sub 8 12) → List Stmt) _ ?h; walk_at "QR"
noncomputable def qb8_13 : List Stmt := by
  refine' (?f : (b : List Stmt) → b = kids (sub 8 13) → List Stmt) _ ?h; walk_at "QR"
noncomputable def qb8_2 : List Stmt := by
  refine' (?f : (b : List Stmt) → b = kids (sub 8 2) → List Stmt) _ ?h; walk_at "QR"
noncomputable def qb8_3 : List Stmt := by
  refine' (?f : (b : List Stmt) → b = kids (sub 8 3) → List Stmt) _ ?h; walk_at "QR"
noncomputable def qb8_4 : List Stmt := by
  refine' (?f : (b : List Stmt) → b = kids (sub 8 4) → List Stmt) _ ?h; walk_at "QR"
noncomputable def qb8_5 : List Stmt := by
  refine' (?f : (b : List Stmt) → b = kids (sub 8 5) → List Stmt) _ ?h; walk_at "QR"
noncomputable def qb8_6 : List Stmt := by
  refine' (?f : (b : List Stmt) → b = kids (sub 8 6) → List Stmt) _ ?h; walk_at "QR"
noncomputable def qb8_7 : List Stmt := by
  refine' (?f : (b : List Stmt) → b = kids (sub 8 7) → List Stmt) _ ?h; walk_at "QR"
noncomputable def qb8_8 : List Stmt := by
  refine' (?f : (b : List Stmt) → b = kids (sub 8 8) → List Stmt) _ ?h; walk_at "QR"
noncomputable def qb8_9 : List Stmt := by
  refine' (?f : (b : List Stmt) → b = kids (sub 8 9) → List Stmt) _ ?h; walk_at "QR"
noncomputable def qp0 : Arguments := by
  refine' (?f : (b : Arguments) → b = parOf (top 0) → Arguments) _ ?h; walk_at "QR"
noncomputable def qp10_0 : Arguments := by
  refine' (?f : (b : Arguments) → b = parOf (sub 10 0) → Arguments) _ ?h; walk_at "QR"
noncomputable def qp10_1 : Arguments := by
  refine' (?f : (b : Arguments) → b = parOf (sub 10 1) → Arguments) _ ?h; walk_at "QR"
noncomputable def qp10_2 : Arguments := by
  refine' (?f : (b : Arguments) → b = parOf (sub 10 2) → Arguments) _ ?h; walk_at "QR"
noncomputable def qp10_3 : Arguments := by
  refine' (?f : (b : Arguments) → b = parOf (sub 10 3) → Arguments) _ ?h; walk_at "QR"
noncomputable def qp10_4 : Arguments := by
  refine' (?f : (b : Arguments) → b = parOf (sub 10 4) → Arguments) _ ?h; walk_at "QR"
noncomputable def qp10_5 : Arguments := by
  refine' (?f : (b : Arguments) → b = parOf (sub 10 5) → Arguments) _ ?h; walk_at "QR"
noncomputable def qp10_6 : Arguments := by
  refine' (?f : (b : Arguments) → b = parOf (sub 10 6) → Arguments) _ ?h; walk_at "QR"
noncomputable def qp10_7 : Arguments := by
  refine' (?f : (b : Arguments) → b = parOf (sub 10 7) → Arguments) _ ?h; walk_at "QR"
noncomputable def qp10_8 : Arguments := by
  refine' (?f : (b : Arguments) → b = parOf (sub 10 8) → Arguments) _ ?h; walk_at "QR"
noncomputable def qp10_9 : Arguments := by
  refine' (?f : (b : Arguments) → b = parOf (sub 10 9) → Arguments) _ ?h; walk_at "QR"
noncomputable def qp12_0 : Arguments := by
  refine' (?f : (b : Arguments) → b = parOf (sub 12 0) → Arguments) _ ?h; walk_at "QR"
noncomputable def qp12_1 : Arguments := by
  refine' (?f : (b : Arguments) → b = parOf (sub 12 1) → Arguments) _ ?h; walk_at "QR"
noncomputable def qp12_10 : Arguments := by
  refine' (?f : (b : Arguments) → b = parOf (sub 12 10) → Arguments) _ ?h; walk_at "QR"
noncomputable def qp12_11 : Arguments := by
  refine' (?f : (b : Arguments) → b = parOf (sub 12 11) → Arguments) _ ?h; walk_at "QR"
noncomputable def qp12_12 : Arguments := by
  refine' (?f : (b : Arguments) → b = parOf (sub 12 12) → Arguments) _ ?h; walk_at "QR"
noncomputable def qp12_13 : Arguments := by
  refine' (?f : (b : Arguments) → b = parOf (sub 12 13) → Arguments) _ ?h; walk_at "QR"
noncomputable def qp12_14 : Arguments := by
  refine' (?f : (b : Arguments) → b = parOf (sub 12 14) → Arguments) _ ?h; walk_at "QR"
noncomputable def qp12_15 : Arguments := by
  refine' (?f : (b : Arguments) → b = parOf (sub 12 15) → Arguments) _ ?h; walk_at "QR"
noncomputable def qp12_16 : Arguments := by
  refine' (?f : (b : Arguments) → b = parOf (sub 12 16) → Arguments) _ ?h; walk_at "QR"
noncomputable def qp12_17 : Arguments := by
  refine' (?f : (b : Arguments) → b = parOf (sub 12 17) → Arguments) _ ?h; walk_at "QR"
noncomputable def qp12_2 : Arguments := by
  refine' (?f : (b : Arguments) → b = parOf (sub 12 2) → Arguments) _ ?h; walk_at "QR"
noncomputable def qp12_3 : Arguments := by
  refine' (?f : (b : Arguments) → b = parOf (sub 12 3) → Arguments) _ ?h; walk_at "QR"
noncomputable def qp12_4 : Arguments := by
  refine' (?f : (b : Arguments) → b = parOf (sub 12 4) → Arguments) _ ?h; walk_at "QR"
noncomputable def qp12_5 : Arguments := by
  refine' (?f : (b : Arguments) → b = parOf (sub 12 5) → Arguments) _ ?h; walk_at "QR"
noncomputable def qp12_6 : Arguments := by
  refine' (?f : (b : Arguments) → b = parOf (sub 12 6) → Arguments) _ ?h; walk_at "QR"
noncomputable def qp12_7 : Arguments := by
  refine' (?f : (b : Arguments) → b = parOf (sub 12 7) → Arguments) _ ?h; walk_at "QR"
noncomputable def qp12_8 : Arguments := by
  refine' (?f : (b : Arguments) → b = parOf (sub 12 8) → Arguments) _ ?h; walk_at "QR"
noncomputable def qp12_9 : Arguments := by
  refine' (?f : (b : Arguments) → b = parOf (sub 12 9) → Arguments) _ ?h; walk_at "QR"
noncomputable def qp14 : Arguments := by
  refine' (?f : (b : Arguments) → b = parOf (top 14) → Arguments) _ ?h; walk_at "QR"
noncomputable def qp15_0 : Arguments := by
  refine' (?f : (b : Arguments) → b = parOf (sub 15 0) → Arguments) _ ?h; walk_at "QR"
noncomputable def qp15_1 : Arguments := by
  refine' (?f : (b : Arguments) → b = parOf (sub 15 1) → Arguments) _ ?h; walk_at "QR"
noncomputable def qp15_2 : Arguments := by
  refine' (?f : (b : Arguments) → b = parOf (sub 15 2) → Arguments) _ ?h; walk_at "QR"
noncomputable def qp15_3 : Arguments := by
  refine' (?f : (b : Arguments) → b = parOf (sub 15 3) → Arguments) _ ?h; walk_at "QR"
noncomputable def qp16 : Arguments := by
  refine' (?f : (b : Arguments) → b = parOf (top 16) → Arguments) _ ?h; walk_at "QR"
noncomputable def qp17_0 : Arguments := by
  refine' (?f : (b : Arguments) → b = parOf (sub 17 0) → Arguments) _ ?h; walk_at "QR"
noncomputable def qp17_1 : Arguments := by
  refine' (?f : (b : Arguments) → b = parOf (sub 17 1) → Arguments) _ ?h; walk_at "QR"
noncomputable def qp17_2 : Arguments := by
  refine' (?f : (b : Arguments) → b = parOf (sub 17 2) → Arguments) _ ?h; walk_at "QR"
noncomputable def qp17_3 : Arguments := by
  refine' (?f : (b : Arguments) → b = parOf (sub 17 3) → Arguments) _ ?h; walk_at "QR"
noncomputable def qp17_4 : Arguments := by
  refine' (?f : (b : Arguments) → b = parOf (sub 17 4) → Arguments) _ ?h; walk_at "QR"
noncomputable def qp17_5 : Arguments := by
  refine' (?f : (b : Arguments) → b = parOf (sub 17 5) → Arguments) _ ?h; walk_at "QR"
noncomputable def qp17_6 : Arguments := by
  refine' (?f : (b : Arguments) → b = parOf (sub 17 6) → Arguments) _ ?h; walk_at "QR"
noncomputable def qp17_7 : Arguments := by
  refine' (?f : (b : Arguments) → b = parOf (sub 17 7) → Arguments) _ ?h; walk_at "QR"
noncomputable def qp17_8 : Arguments := by
  refine' (?f : (b : Arguments) → b = parOf (sub 17 8) → Arguments) _ ?h; walk_at "QR"
noncomputable def qp19 : Arguments := by
  refine' (?f : (b : Arguments) → b = parOf (top 19) → Arguments) _ ?h; walk_at "QR"
noncomputable def qp20 : Arguments := by
  refine' (?f : (b : Arguments) → b = parOf (top 20) → Arguments) _ ?h; walk_at "QR"
noncomputable def qp21 : Arguments := by
  refine' (?f : (b : Arguments) → b = parOf (top 21) → Arguments) _ ?h; walk_at "QR"
noncomputable def qp22 : Arguments := by
  refine' (?f : (b : Arguments) → b = parOf (top 22) → Arguments) _ ?h; walk_at "QR"
noncomputable def qp23 : Arguments := by
  refine' (?f : (b : Arguments) → b = parOf (top 23) → Arguments) _ ?h; walk_at "QR"
noncomputable def qp24 : Arguments := by
  refine' (?f : (b : Arguments) → b = parOf (top 24) → Arguments) _ ?h; walk_at "QR"
noncomputable def qp25 : Arguments := by
  refine' (?f : (b : Arguments) → b = parOf (top 25) → Arguments) _ ?h; walk_at "QR"
noncomputable def qp26 : Arguments := by
  refine' (?f : (b : Arguments) → b = parOf (top 26) → Arguments) _ ?h; walk_at "QR"
noncomputable def qp2_0 : Arguments := by
  refine' (?f : (b : Arguments) → b = parOf (sub 2 0) → Arguments) _ ?h; walk_at "QR"
noncomputable def qp2_1 : Arguments := by
  refine' (?f : (b : Arguments) → b = parOf (sub 2 1) → Arguments) _ ?h; walk_at "QR"
noncomputable def qp5 : Arguments := by
  refine' (?f : (b : Arguments) → b = parOf (top 5) → Arguments) _ ?h; walk_at "QR"
noncomputable def qp6 : Arguments := by
  refine' (?f : (b : Arguments) → b = parOf (top 6) → Arguments) _ ?h; walk_at "QR"
noncomputable def qp7 : Arguments := by
  refine' (?f : (b : Arguments) → b = parOf (top 7) → Arguments) _ ?h; walk_at "QR"
noncomputable def qp8_0 : Arguments := by
  refine' (?f : (b : Arguments) → b = parOf (sub 8 0) → Arguments) _ ?h; walk_at "QR"
noncomputable def qp8_1 : Arguments := by
  refine' (?f : (b : Arguments) → b = parOf (sub 8 1) → Arguments) _ ?h; walk_at "QR"
noncomputable def qp8_10 : Arguments := by
  refine' (?f : (b : Arguments) → b = parOf (sub 8 10) → Arguments) _ ?h; walk_at "QR"
noncomputable def qp8_11 : Arguments := by
  refine' (?f : (b : Arguments) → b = parOf (sub 8 11) → Arguments) _ ?h; walk_at "QR"
noncomputable def qp8_12 : Arguments := by
  refine' (?f : (b : Arguments) → b = parOf (sub 8 12) → Arguments) _ ?h; walk_at "QR"
noncomputable def qp8_13 : Arguments := by
  refine' (?f : (b : Arguments) → b = parOf (sub 8 13) → Arguments) _ ?h; walk_at "QR"
noncomputable def qp8_2 : Arguments := by
  refine' (?f : (b : Arguments) → b = parOf (sub 8 2) → Arguments) _ ?h; walk_at "QR"
noncomputable def qp8_3 : Arguments := by
  refine' (?f : (b : Arguments) → b = parOf (sub 8 3) → Arguments) _ ?h; walk_at "QR"
noncomputable def qp8_4 : Arguments := by
  refine' (?f : (b : Arguments) → b = parOf (sub 8 4) → Arguments) _ ?h; walk_at "QR"
noncomputable def qp8_5 : Arguments := by
  refine' (?f : (b : Arguments) → b = parOf (sub 8 5) → Arguments) _ ?h; walk_at "QR"
noncomputable def qp8_6 : Arguments := by
  refine' (?f : (b : Arguments) → b = parOf (sub 8 6) → Arguments) _ ?h; walk_at "QR"
noncomputable def qp8_7 : Arguments := by
  refine' (?f : (b : Arguments) → b = parOf (sub 8 7) → Arguments) _ ?h; walk_at "QR"
noncomputable def qp8_8 : Arguments := by
  refine' (?f : (b : Arguments) → b = parOf (sub 8 8) → Arguments) _ ?h; walk_at "QR"
noncomputable def qp8_9 : Arguments := by
  refine' (?f : (b : Arguments) → b = parOf (sub 8 9) → Arguments) _ ?h; walk_at "QR"
noncomputable def qs0 : Scope := by
  refine' (?f : (b : Scope) → b = scoOf (top 0) → Scope) _ ?h; walk_at "QR"
noncomputable def qs10_3 : Scope := by
  refine' (?f : (b : Scope) → b = scoOf (sub 10 3) → Scope) _ ?h; walk_at "QR"
noncomputable def qs10_4 : Scope := by
  refine' (?f : (b : Scope) → b = scoOf (sub 10 4) → Scope) _ ?h; walk_at "QR"
noncomputable def qs10_5 : Scope := by
  refine' (?f : (b : Scope) → b = scoOf (sub 10 5) → Scope) _ ?h; walk_at "QR"
noncomputable def qs10_6 : Scope := by
  refine' (?f : (b : Scope) → b = scoOf (sub 10 6) → Scope) _ ?h; walk_at "QR"
noncomputable def qs10_7 : Scope := by
  refine' (?f : (b : Scope) → b = scoOf (sub 10 7) → Scope) _ ?h; walk_at "QR"
noncomputable def qs10_8 : Scope := by
  refine' (?f : (b : Scope) → b = scoOf (sub 10 8) → Scope) _ ?h; walk_at "QR"
noncomputable def qs12_0 : Scope := by
  refine' (?f : (b : Scope) → b = scoOf (sub 12 0) → Scope) _ ?h; walk_at "QR"
noncomputable def qs12_13 : Scope := by
  refine' (?f : (b : Scope) → b = scoOf (sub 12 13) → Scope) _ ?h; walk_at "QR"
noncomputable def qs12_16 : Scope := by
  refine' (?f : (b : Scope) → b = scoOf (sub 12 16) → Scope) _ ?h; walk_at "QR"
noncomputable def qs12_2 : Scope := by
  refine' (?f : (b : Scope) → b = scoOf (sub 12 2) → Scope) _ ?h; walk_at "QR"
noncomputable def qs12_3 : Scope := by
  refine' (?f : (b : Scope) → b = scoOf (sub 12 3) → Scope) _ ?h; walk_at "QR"
noncomputable def qs12_4 : Scope := by
  refine' (?f : (b : Scope) → b = scoOf (sub 12 4) → Scope) _ ?h; walk_at "QR"
noncomputable def qs12_5 : Scope := by
  refine' (?f : (b : Scope) → b = scoOf (sub 12 5) → Scope) _ ?h; walk_at "QR"
noncomputable def qs12_7 : Scope := by
  refine' (?f : (b : Scope) → b = scoOf (sub 12 7) → Scope) _ ?h; walk_at "QR"
noncomputable def qs12_8 : Scope := by
  refine' (?f : (b : Scope) → b = scoOf (sub 12 8) → Scope) _ ?h; walk_at "QR"
noncomputable def qs12_9 : Scope := by
  refine' (?f : (b : Scope) → b = scoOf (sub 12 9) → Scope) _ ?h; walk_at "QR"
noncomputable def qs14 : Scope := by
  refine' (?f : (b : Scope) → b = scoOf (top 14) → Scope) _ ?h; walk_at "QR"
noncomputable def qs15_0 : Scope := by
  refine' (?f : (b : Scope) → b = scoOf (sub 15 0) → Scope) _ ?h; walk_at "QR"
noncomputable def qs15_1 : Scope := by
  refine' (?f : (b : Scope) → b = scoOf (sub 15 1) → Scope) _ ?h; walk_at "QR"
noncomputable def qs15_2 : Scope := by
  refine' (?f : (b : Scope) → b = scoOf (sub 15 2) → Scope) _ ?h; walk_at "QR"
noncomputable def qs16 : Scope := by
  refine' (?f : (b : Scope) → b = scoOf (top 16) → Scope) _ ?h; walk_at "QR"
noncomputable def qs17_0 : Scope := by
  refine' (?f : (b : Scope) → b = scoOf (sub 17 0) → Scope) _ ?h; walk_at "QR"
noncomputable def qs17_1 : Scope := by
  refine' (?f : (b : Scope) → b = scoOf (sub 17 1) → Scope) _ ?h; walk_at "QR"
noncomputable def qs17_4 : Scope := by
  refine' (?f : (b : Scope) → b = scoOf (sub 17 4) → Scope) _ ?h; walk_at "QR"
noncomputable def qs17_5 : Scope := by
  refine' (?f : (b : Scope) → b = scoOf (sub 17 5) → Scope) _ ?h; walk_at "QR"
noncomputable def qs17_6 : Scope := by
  refine' (?f : (b : Scope) → b = scoOf (sub 17 6) → Scope) _ ?h; walk_at "QR"
noncomputable def qs17_7 : Scope := by
  refine' (?f : (b : Scope) → b = scoOf (sub 17 7) → Scope) _ ?h; walk_at "QR"
noncomputable def qs17_8 : Scope := by
  refine' (?f : (b : Scope) → b = scoOf (sub 17 8) → Scope) _ ?h; walk_at "QR"
noncomputable def qs19 : Scope := by
  refine' (?f : (b : Scope) → b = scoOf (top 19) → Scope) _ ?h; walk_at "QR"
noncomputable def qs20 : Scope := by
  refine' (?f : (b : Scope) → b = scoOf (top 20) → Scope) _ ?h; walk_at "QR"
noncomputable def qs21 : Scope := by
  refine' (?f : (b : Scope) → b = scoOf (top 21) → Scope) _ ?h; walk_at "QR"
noncomputable def qs22 : Scope := by
  refine' (?f : (b : Scope) → b = scoOf (top 22) → Scope) _ ?h; walk_at "QR"
noncomputable def qs23 : Scope := by
  refine' (?f : (b : Scope) → b = scoOf (top 23) → Scope) _ ?h; walk_at "QR"
noncomputable def qs24 : Scope := by
  refine' (?f : (b : Scope) → b = scoOf (top 24) → Scope) _ ?h; walk_at "QR"
noncomputable def qs25 : Scope := by
  refine' (?f : (b : Scope) → b = scoOf (top 25) → Scope) _ ?h; walk_at "QR"
noncomputable def qs26 : Scope := by
  refine' (?f : (b : Scope) → b = scoOf (top 26) → Scope) _ ?h; walk_at "QR"
noncomputable def qs2_0 : Scope := by
  refine' (?f : (b : Scope) → b = scoOf (sub 2 0) → Scope) _ ?h; walk_at "QR"
noncomputable def qs2_1 : Scope := by
  refine' (?f : (b : Scope) → b = scoOf (sub 2 1) → Scope) _ ?h; walk_at "QR"
noncomputable def qs5 : Scope := by
  refine' (?f : (b : Scope) → b = scoOf (top 5) → Scope) _ ?h; walk_at "QR"
noncomputable def qs6 : Scope := by
  refine' (?f : (b : Scope) → b = scoOf (top 6) → Scope) _ ?h; walk_at "QR"
noncomputable def qs7 : Scope := by
  refine' (?f : (b : Scope) → b = scoOf (top 7) → Scope) _ ?h; walk_at "QR"
noncomputable def qs8_1 : Scope := by
  refine' (?f : (b : Scope) → b = scoOf (sub 8 1) → Scope) _ ?h; walk_at "QR"
noncomputable def qs8_10 : Scope := by
  refine' (?f : (b : Scope) → b = scoOf (sub 8 10) → Scope) _ ?h; walk_at "QR"
noncomputable def qs8_11 : Scope := by
  refine' (?f : (b : Scope) → b = scoOf (sub 8 11) → Scope) _ ?h; walk_at "QR"
noncomputable def qs8_13 : Scope := by
  refine' (?f : (b : Scope) → b = scoOf (sub 8 13) → Scope) _ ?h; walk_at "QR"
noncomputable def qs8_2 : Scope := by
  refine' (?f : (b : Scope) → b = scoOf (sub 8 2) → Scope) _ ?h; walk_at "QR"
noncomputable def qs8_3 : Scope := by
  refine' (?f : (b : Scope) → b = scoOf (sub 8 3) → Scope) _ ?h; walk_at "QR"
noncomputable def qs8_4 : Scope := by
  refine' (?f : (b : Scope) → b = scoOf (sub 8 4) → Scope) _ ?h; walk_at "QR"
noncomputable def qs8_5 : Scope := by
  refine' (?f : (b : Scope) → b = scoOf (sub 8 5) → Scope) _ ?h; walk_at "QR"
noncomputable def qs8_6 : Scope := by
  refine' (?f : (b : Scope) → b = scoOf (sub 8 6) → Scope) _ ?h; walk_at "QR"
noncomputable def qs8_7 : Scope := by
  refine' (?f : (b : Scope) → b = scoOf (sub 8 7) → Scope) _ ?h; walk_at "QR"
noncomputable def K0 (P : Params) : Frag := (nat_lit 2, o49 P) :: (nat_lit 3, o589 P) :: (nat_lit 15, o43 P) :: (nat_lit 17, o54 P) :: (nat_lit 18, o43 P) :: (nat_lit 20, o57 P) :: (nat_lit 21, zf "_wall" "_wall" qp0 (qb0) qs0 "__main__" 164 20) :: (nat_lit 22, o59 P) :: (nat_lit 25, o62 P) :: (nat_lit 30, o67 P) :: (nat_lit 31, o68 P) :: (nat_lit 33, o70 P) :: (nat_lit 34, o43 P) :: (nat_lit 36, o73 P) :: (nat_lit 37, { cls := .type "function", data := Data.func { name := Str.ofString "__init__", qualname := Str.ofString "HeapError.__init__", params := qp2_0, body := .stmts (qb2_0), scope := qs2_0, globals := 3, closure := [(Str.ofString "__class__", 25)], defaults := .none, kwdefaults := .none, pyModule := zs "alikeheap.errors" 194, code := .ref 36, closureTuple := .ref 30 } }) :: (nat_lit 38, o43 P) :: (nat_lit 40, o77 P) :: (nat_lit 41, o43 P) :: (nat_lit 43, o80 P) :: (nat_lit 44, zf "told" "HeapError.told" qp2_1 (qb2_1) qs2_1 "alikeheap.errors" 194 43) :: (nat_lit 45, o82 P) :: (nat_lit 46, o83 P) :: (nat_lit 47, o90 P) :: (nat_lit 48, o85 P) :: (nat_lit 51, o91 P) :: (nat_lit 58, o43 P) :: (nat_lit 59, o99 P) :: (nat_lit 60, o100 P) :: (nat_lit 63, o43 P) :: (nat_lit 66, o106 P) :: (nat_lit 67, zf "is_op" "is_op" qp5 (qb5) qs5 "alikeheap.terms" 250 66) :: (nat_lit 68, o43 P) :: (nat_lit 70, o110 P) :: (nat_lit 71, o43 P) :: (nat_lit 73, o113 P) :: (nat_lit 74, zf "is_variable" "is_variable" qp6 (qb6) qs6 "alikeheap.terms" 250 73) :: (nat_lit 75, o43 P) :: (nat_lit 78, o118 P) :: (nat_lit 79, zf "parts" "parts" qp7 (qb7) qs7 "alikeheap.terms" 250 78) :: (nat_lit 87, o43 P) :: (nat_lit 89, o131 P) :: (nat_lit 90, o43 P) :: (nat_lit 92, o134 P) :: (nat_lit 93, zf "__init__" "Bank.__init__" qp8_0 (qb8_0) qs2_1 "alikeheap.terms" 250 92) :: (nat_lit 94, o43 P) :: (nat_lit 96, o138 P) :: (nat_lit 97, o43 P) :: (nat_lit 99, o141 P) :: (nat_lit 100, zf "size" "Bank.size" qp8_1 (qb8_1) qs8_1 "alikeheap.terms" 250 99) :: (nat_lit 101, o43 P) :: (nat_lit 104, o146 P) :: (nat_lit 105, zf "take" "Bank.take" qp8_2 (qb8_2) qs8_2 "alikeheap.terms" 250 104) :: (nat_lit 106, o43 P) :: (nat_lit 108, o150 P) :: (nat_lit 109, o43 P) :: (nat_lit 111, o153 P) :: (nat_lit 112, zf "require" "Bank.require" qp8_3 (qb8_3) qs8_3 "alikeheap.terms" 250 111) :: (nat_lit 113, o43 P) :: (nat_lit 115, o157 P) :: (nat_lit 116, o43 P) :: (nat_lit 118, o160 P) :: (nat_lit 119, zf "put" "Bank.put" qp8_4 (qb8_4) qs8_4 "alikeheap.terms" 250 118) :: (nat_lit 120, o43 P) :: (nat_lit 123, o165 P) :: (nat_lit 124, zf "put_all" "Bank.put_all" qp8_5 (qb8_5) qs8_5 "alikeheap.terms" 250 123) :: (nat_lit 125, o43 P) :: (nat_lit 127, o169 P) :: (nat_lit 128, o43 P) :: (nat_lit 130, o172 P) :: (nat_lit 131, zf "cut" "Bank.cut" qp8_6 (qb8_6) qs8_6 "alikeheap.terms" 250 130) :: (nat_lit 132, o43 P) :: (nat_lit 134, o176 P) :: (nat_lit 135, o43 P) :: (nat_lit 137, o179 P) :: (nat_lit 138, zf "op" "Bank.op" qp8_7 (qb8_7) qs8_7 "alikeheap.terms" 250 137) :: (nat_lit 139, o43 P) :: (nat_lit 141, o183 P) :: (nat_lit 142, o43 P) :: (nat_lit 144, o186 P) :: (nat_lit 145, zf "kids" "Bank.kids" qp8_8 (qb8_8) qs8_7 "alikeheap.terms" 250 144) :: (nat_lit 146, o43 P) :: (nat_lit 148, o190 P) :: (nat_lit 149, o43 P) :: (nat_lit 151, o193 P) :: (nat_lit 152, zf "node" "Bank.node" qp8_9 (qb8_9) qs8_7 "alikeheap.terms" 250 151) :: (nat_lit 153, o43 P) :: (nat_lit 156, o198 P) :: (nat_lit 157, zf "term" "Bank.term" qp8_10 (qb8_10) qs8_10 "alikeheap.terms" 250 156) :: (nat_lit 158, o43 P) :: (nat_lit 160, o202 P) :: (nat_lit 161, o43 P) :: (nat_lit 163, o205 P) :: (nat_lit 164, zf "weight" "Bank.weight" qp8_11 (qb8_11) qs8_11 "alikeheap.terms" 250 163) :: (nat_lit 165, o43 P) :: (nat_lit 167, o209 P) :: (nat_lit 168, o43 P) :: (nat_lit 170, o212 P) :: (nat_lit 171, zf "depth" "Bank.depth" qp8_12 (qb8_12) qs8_11 "alikeheap.terms" 250 170) :: (nat_lit 172, o43 P) :: (nat_lit 174, o216 P) :: (nat_lit 175, o43 P) :: (nat_lit 177, o219 P) :: (nat_lit 178, zf "seek" "Bank.seek" qp8_13 (qb8_13) qs8_13 "alikeheap.terms" 250 177) :: (nat_lit 179, o221 P) :: (nat_lit 180, o222 P) :: (nat_lit 181, o223 P) :: (nat_lit 182, o224 P) :: (nat_lit 183, o225 P) :: (nat_lit 193, o43 P) :: (nat_lit 195, o241 P) :: (nat_lit 196, o43 P) :: (nat_lit 198, o244 P) :: (nat_lit 199, zf "__init__" "Unions.__init__" qp10_0 (qb10_0) qs2_1 "alikeheap.unions" 402 198) :: (nat_lit 200, o43 P) :: (nat_lit 202, o248 P) :: (nat_lit 203, o43 P) :: (nat_lit 205, o251 P) :: (nat_lit 206, zf "make" "Unions.make" qp10_1 (qb10_1) qs8_1 "alikeheap.unions" 402 205) :: (nat_lit 207, o43 P) :: (nat_lit 209, o255 P) :: (nat_lit 210, o43 P) :: (nat_lit 212, o258 P) :: (nat_lit 213, zf "size" "Unions.size" qp10_2 (qb10_2) qs8_1 "alikeheap.unions" 402 212) :: (nat_lit 214, o43 P) :: (nat_lit 216, o262 P) :: (nat_lit 217, o43 P) :: (nat_lit 219, o265 P) :: (nat_lit 220, zf "find" "Unions.find" qp10_3 (qb10_3) qs10_3 "alikeheap.unions" 402 219) :: (nat_lit 221, o43 P) :: (nat_lit 223, o269 P) :: (nat_lit 224, o43 P) :: (nat_lit 226, o272 P) :: (nat_lit 227, zf "merge" "Unions.merge" qp10_4 (qb10_4) qs10_4 "alikeheap.unions" 402 226) :: (nat_lit 228, o43 P) :: (nat_lit 230, o276 P) :: (nat_lit 231, o43 P) :: (nat_lit 233, o279 P) :: (nat_lit 234, zf "members" "Unions.members" qp10_5 (qb10_5) qs10_5 "alikeheap.unions" 402 233) :: (nat_lit 235, o43 P) :: (nat_lit 238, o284 P) :: (nat_lit 239, zf "classes" "Unions.classes" qp10_6 (qb10_6) qs10_6 "alikeheap.unions" 402 238) :: (nat_lit 240, o43 P) :: (nat_lit 242, o288 P) :: (nat_lit 243, o43 P) :: (nat_lit 245, o291 P) :: (nat_lit 246, zf "log" "Unions.log" qp10_7 (qb10_7) qs10_7 "alikeheap.unions" 402 245) :: (nat_lit 247, o43 P) :: (nat_lit 249, o295 P) :: (nat_lit 250, o43 P) :: (nat_lit 252, o298 P) :: (nat_lit 253, zf "back" "Unions.back" qp10_8 (qb10_8) qs10_8 "alikeheap.unions" 402 252) :: (nat_lit 254, o43 P) :: (nat_lit 256, o302 P) :: (nat_lit 257, o43 P) :: (nat_lit 259, o305 P) :: (nat_lit 260, zf "cut" "Unions.cut" qp10_9 (qb10_9) qs8_6 "alikeheap.unions" 402 259) :: (nat_lit 261, o307 P) :: (nat_lit 262, o308 P) :: (nat_lit 263, o309 P) :: (nat_lit 264, o310 P) :: (nat_lit 265, o311 P) :: (nat_lit 275, o43 P) :: (nat_lit 277, o327 P) :: (nat_lit 278, o43 P) :: (nat_lit 280, o330 P) :: (nat_lit 281, zf "__init__" "Heap.__init__" qp12_0 (qb12_0) qs12_0 "alikeheap.heap" 506 280) :: (nat_lit 282, o43 P) :: (nat_lit 284, o334 P) :: (nat_lit 285, o43 P) :: (nat_lit 287, o337 P) :: (nat_lit 288, zf "size" "Heap.size" qp12_1 (qb12_1) qs2_1 "alikeheap.heap" 506 287) :: (nat_lit 289, o43 P) :: (nat_lit 292, o342 P) :: (nat_lit 293, zf "node" "Heap.node" qp12_2 (qb12_2) qs12_2 "alikeheap.heap" 506 292) :: (nat_lit 294, o43 P) :: (nat_lit 297, o347 P) :: (nat_lit 298, zf "add" "Heap.add" qp12_3 (qb12_3) qs12_3 "alikeheap.heap" 506 297) :: (nat_lit 299, o43 P) :: (nat_lit 302, o352 P) :: (nat_lit 303, zf "put" "Heap.put" qp12_4 (qb12_4) qs12_4 "alikeheap.heap" 506 302) :: (nat_lit 304, o43 P) :: (nat_lit 306, o356 P) :: (nat_lit 307, o43 P) :: (nat_lit 309, o359 P) :: (nat_lit 310, zf "look_at" "Heap.look_at" qp12_5 (qb12_5) qs12_5 "alikeheap.heap" 506 309) :: (nat_lit 311, o43 P) :: (nat_lit 313, o363 P) :: (nat_lit 314, o43 P) :: (nat_lit 316, o366 P) :: (nat_lit 317, zf "find" "Heap.find" qp12_6 (qb12_6) qs8_7 "alikeheap.heap" 506 316) :: (nat_lit 318, o43 P) :: (nat_lit 320, o370 P) :: (nat_lit 321, o43 P) :: (nat_lit 323, o373 P) :: (nat_lit 324, zf "are_like" "Heap.are_like" qp12_7 (qb12_7) qs12_7 "alikeheap.heap" 506 323) :: (nat_lit 325, o43 P) :: (nat_lit 327, o377 P) :: (nat_lit 328, o43 P) :: (nat_lit 330, o380 P) :: (nat_lit 331, zf "merge" "Heap.merge" qp12_8 (qb12_8) qs12_8 "alikeheap.heap" 506 330) :: (nat_lit 332, o43 P) :: (nat_lit 334, o384 P) :: (nat_lit 335, o43 P) :: (nat_lit 337, o387 P) :: (nat_lit 338, zf "join" "Heap.join" qp12_9 (qb12_9) qs12_9 "alikeheap.heap" 506 337) :: (nat_lit 339, o43 P) :: (nat_lit 341, o391 P) :: (nat_lit 342, o43 P) :: (nat_lit 344, o394 P) :: (nat_lit 345, zf "settle" "Heap.settle" qp12_10 (qb12_10) qs8_1 "alikeheap.heap" 506 344) :: (nat_lit 346, o43 P) :: (nat_lit 348, o398 P) :: (nat_lit 349, o43 P) :: (nat_lit 351, o401 P) :: (nat_lit 352, zf "is_settled" "Heap.is_settled" qp12_11 (qb12_11) qs8_1 "alikeheap.heap" 506 351) :: (nat_lit 353, o43 P) :: (nat_lit 355, o405 P) :: (nat_lit 356, o43 P) :: (nat_lit 358, o408 P) :: (nat_lit 359, zf "classes" "Heap.classes" qp12_12 (qb12_12) qs2_1 "alikeheap.heap" 506 358) :: (nat_lit 360, o43 P) :: (nat_lit 362, o412 P) :: (nat_lit 363, o43 P) :: (nat_lit 365, o415 P) :: (nat_lit 366, zf "members" "Heap.members" qp12_13 (qb12_13) qs12_13 "alikeheap.heap" 506 365) :: (nat_lit 367, o43 P) :: (nat_lit 369, o419 P) :: (nat_lit 370, o43 P) :: (nat_lit 372, o422 P) :: (nat_lit 373, zf "nodes_of" "Heap.nodes_of" qp12_14 (qb12_14) qs12_13 "alikeheap.heap" 506 372) :: (nat_lit 374, o43 P) :: (nat_lit 376, o426 P) :: (nat_lit 377, o43 P) :: (nat_lit 379, o429 P) :: (nat_lit 380, zf "many_nodes" "Heap.many_nodes" qp12_15 (qb12_15) qs10_7 "alikeheap.heap" 506 379) :: (nat_lit 381, o43 P) :: (nat_lit 384, o434 P) :: (nat_lit 385, zf "seek" "Heap.seek" qp12_16 (qb12_16) qs12_16 "alikeheap.heap" 506 384) :: (nat_lit 386, o43 P) :: (nat_lit 388, o438 P) :: (nat_lit 389, o43 P) :: (nat_lit 391, o441 P) :: (nat_lit 392, zf "users" "Heap.users" qp12_17 (qb12_17) qs12_13 "alikeheap.heap" 506 391) :: (nat_lit 393, o443 P) :: (nat_lit 394, o444 P) :: (nat_lit 395, o461 P) :: (nat_lit 396, o446 P) :: (nat_lit 397, o447 P) :: (nat_lit 400, o43 P) :: (nat_lit 402, o454 P) :: (nat_lit 403, o43 P) :: (nat_lit 405, o457 P) :: (nat_lit 406, zf "check_reason" "check_reason" qp14 (qb14) qs14 "alikeheap.story" 674 405) :: (nat_lit 407, o462 P) :: (nat_lit 410, o465 P) :: (nat_lit 415, o470 P) :: (nat_lit 416, o471 P) :: (nat_lit 418, o473 P) :: (nat_lit 419, o43 P) :: (nat_lit 421, o476 P) :: (nat_lit 422, { cls := .type "function", data := Data.func { name := Str.ofString "__init__", qualname := Str.ofString "Written.__init__", params := qp15_0, body := .stmts (qb15_0), scope := qs15_0, globals := 3, closure := [(Str.ofString "__class__", 410)], defaults := .none, kwdefaults := .none, pyModule := zs "alikeheap.story" 674, code := .ref 421, closureTuple := .ref 415 } }) :: (nat_lit 423, o470 P) :: (nat_lit 424, o479 P) :: (nat_lit 426, o481 P) :: (nat_lit 427, o43 P) :: (nat_lit 429, o484 P) :: (nat_lit 430, { cls := .type "function", data := Data.func { name := Str.ofString "add", qualname := Str.ofString "Written.add", params := qp15_1, body := .stmts (qb15_1), scope := qs15_1, globals := 3, closure := [(Str.ofString "__class__", 410)], defaults := .none, kwdefaults := .none, pyModule := zs "alikeheap.story" 674, code := .ref 429, closureTuple := .ref 423 } }) :: (nat_lit 431, o470 P) :: (nat_lit 432, o487 P) :: (nat_lit 434, o489 P) :: (nat_lit 435, o43 P) :: (nat_lit 437, o492 P) :: (nat_lit 438, { cls := .type "function", data := Data.func { name := Str.ofString "merge", qualname := Str.ofString "Written.merge", params := qp15_2, body := .stmts (qb15_2), scope := qs15_2, globals := 3, closure := [(Str.ofString "__class__", 410)], defaults := .none, kwdefaults := .none, pyModule := zs "alikeheap.story" 674, code := .ref 437, closureTuple := .ref 431 } }) :: (nat_lit 439, o470 P) :: (nat_lit 440, o495 P) :: (nat_lit 442, o497 P) :: (nat_lit 443, o43 P) :: (nat_lit 445, o500 P) :: (nat_lit 446, { cls := .type "function", data := Data.func { name := Str.ofString "settle", qualname := Str.ofString "Written.settle", params := qp15_3, body := .stmts (qb15_3), scope := qs15_0, globals := 3, closure := [(Str.ofString "__class__", 410)], defaults := .none, kwdefaults := .none, pyModule := zs "alikeheap.story" 674, code := .ref 445, closureTuple := .ref 439 } }) :: (nat_lit 447, o502 P) :: (nat_lit 448, o503 P) :: (nat_lit 449, o504 P) :: (nat_lit 452, o43 P) :: (nat_lit 455, o510 P) :: (nat_lit 456, zf "row_text" "row_text" qp16 (qb16) qs16 "alikeheap.story" 674 455) :: (nat_lit 464, o43 P) :: (nat_lit 466, o523 P) :: (nat_lit 467, o43 P) :: (nat_lit 469, o526 P) :: (nat_lit 470, zf "__init__" "Story.__init__" qp17_0 (qb17_0) qs17_0 "alikeheap.story" 674 469) :: (nat_lit 471, o43 P) :: (nat_lit 473, o530 P) :: (nat_lit 474, o43 P) :: (nat_lit 476, o533 P) :: (nat_lit 477, zf "put" "Story.put" qp17_1 (qb17_1) qs17_1 "alikeheap.story" 674 476) :: (nat_lit 478, o43 P) :: (nat_lit 480, o537 P) :: (nat_lit 481, o43 P) :: (nat_lit 483, o540 P) :: (nat_lit 484, zf "merge" "Story.merge" qp17_2 (qb17_2) qs12_8 "alikeheap.story" 674 483) :: (nat_lit 485, o43 P) :: (nat_lit 487, o544 P) :: (nat_lit 488, o43 P) :: (nat_lit 490, o547 P) :: (nat_lit 491, zf "settle" "Story.settle" qp17_3 (qb17_3) qs2_1 "alikeheap.story" 674 490) :: (nat_lit 492, o43 P) :: (nat_lit 494, o551 P) :: (nat_lit 495, o43 P) :: (nat_lit 497, o554 P) :: (nat_lit 498, zf "rows" "Story.rows" qp17_4 (qb17_4) qs17_4 "alikeheap.story" 674 497) :: (nat_lit 499, o43 P) :: (nat_lit 502, o559 P) :: (nat_lit 503, zf "text" "Story.text" qp17_5 (qb17_5) qs17_5 "alikeheap.story" 674 502) :: (nat_lit 504, o43 P) :: (nat_lit 506, o563 P) :: (nat_lit 507, o43 P) :: (nat_lit 509, o566 P) :: (nat_lit 510, zf "back" "Story.back" qp17_6 (qb17_6) qs17_6 "alikeheap.story" 674 509) :: (nat_lit 511, o43 P) :: (nat_lit 513, o570 P) :: (nat_lit 514, o43 P) :: (nat_lit 516, o573 P) :: (nat_lit 517, zf "do" "Story.do" qp17_7 (qb17_7) qs17_7 "alikeheap.story" 674 516) :: (nat_lit 518, o43 P) :: (nat_lit 520, o577 P) :: (nat_lit 521, o43 P) :: (nat_lit 523, o580 P) :: (nat_lit 524, zf "alike_with" "Story.alike_with" qp17_8 (qb17_8) qs17_8 "alikeheap.story" 674 523) :: (nat_lit 525, o582 P) :: (nat_lit 526, o583 P) :: (nat_lit 527, o584 P) :: (nat_lit 528, o585 P) :: (nat_lit 529, o586 P) :: (nat_lit 532, o43 P) :: (nat_lit 534, o593 P) :: (nat_lit 535, o43 P) :: (nat_lit 537, o596 P) :: (nat_lit 538, zf "_law_draw" "_law_draw" qp19 (qb19) qs19 "law_pq0074_01" 844 537) :: (nat_lit 539, o43 P) :: (nat_lit 542, o601 P) :: (nat_lit 543, zf "_law_tree" "_law_tree" qp20 (qb20) qs20 "law_pq0074_01" 844 542) :: (nat_lit 544, o43 P) :: (nat_lit 547, o606 P) :: (nat_lit 548, zf "_law_written" "_law_written" qp21 (qb21) qs21 "law_pq0074_01" 844 547) :: (nat_lit 549, o43 P) :: (nat_lit 551, o610 P) :: (nat_lit 552, o43 P) :: (nat_lit 554, o613 P) :: (nat_lit 555, zf "_law_is_merged_right" "_law_is_merged_right" qp22 (qb22) qs22 "law_pq0074_01" 844 554) :: (nat_lit 556, o43 P) :: (nat_lit 558, o617 P) :: (nat_lit 559, o43 P) :: (nat_lit 561, o620 P) :: (nat_lit 562, zf "_law_is_refused" "_law_is_refused" qp23 (qb23) qs23 "law_pq0074_01" 844 561) :: (nat_lit 563, o43 P) :: (nat_lit 565, o624 P) :: (nat_lit 566, o43 P) :: (nat_lit 568, o627 P) :: (nat_lit 569, zf "_law_is_done_right" "_law_is_done_right" qp24 (qb24) qs24 "law_pq0074_01" 844 568) :: (nat_lit 570, o43 P) :: (nat_lit 573, o632 P) :: (nat_lit 574, zf "_law_state" "_law_state" qp25 (qb25) qs25 "law_pq0074_01" 844 573) :: (nat_lit 575, o43 P) :: (nat_lit 577, o636 P) :: (nat_lit 578, o43 P) :: (nat_lit 580, o639 P) :: (nat_lit 581, zf "law" "law" qp26 (qb26) qs26 "law_pq0074_01" 844 580) :: []
noncomputable def KK : Params → Frag := by
  intro P
  refine' (?f : (b : Frag) → b = K0 P → Frag) _ ?h
  (case f => exact fun b _ => b)
  rotate_left
  delta K0 o100 o106 o110 o113 o118 o131 o134 o138 o141 o146 o150 o153 o157 o160 o165 o169 o172 o176 o179 o183 o186 o190 o193 o198 o202 o205 o209 o212 o216 o219 o221 o222 o223 o224 o225 o241 o244 o248 o251 o255 o258 o262 o265 o269 o272 o276 o279 o284 o288 o291 o295 o298 o302 o305 o307 o308 o309 o310 o311 o327 o330 o334 o337 o342 o347 o352 o356 o359 o363 o366 o370 o373 o377 o380 o384 o387 o391 o394 o398 o401 o405 o408 o412 o415 o419 o422 o426 o429 o43 o434 o438 o441 o443 o444 o446 o447 o454 o457 o461 o462 o465 o470 o471 o473 o476 o479 o481 o484 o487 o489 o49 o492 o495 o497 o500 o502 o503 o504 o510 o523 o526 o530 o533 o537 o54 o540 o544 o547 o551 o554 o559 o563 o566 o57 o570 o573 o577 o580 o582 o583 o584 o585 o586 o589 o59 o593 o596 o601 o606 o610 o613 o617 o62 o620 o624 o627 o632 o636 o639 o67 o68 o70 o73 o77 o80 o82 o83 o85 o90 o91 o99 ze zs zt zg zc zd zh zf qb0 qb10_0 qb10_1 qb10_2 qb10_3 qb10_4 qb10_5 qb10_6 qb10_7 qb10_8 qb10_9 qb12_0 qb12_1 qb12_10 qb12_11 qb12_12 qb12_13 qb12_14 qb12_15 qb12_16 qb12_17 qb12_2 qb12_3 qb12_4 qb12_5 qb12_6 qb12_7 qb12_8 qb12_9 qb14 qb15_0 qb15_1 qb15_2 qb15_3 qb16 qb17_0 qb17_1 qb17_2 qb17_3 qb17_4 qb17_5 qb17_6 qb17_7 qb17_8 qb19 qb20 qb21 qb22 qb23 qb24 qb25 qb26 qb2_0 qb2_1 qb5 qb6 qb7 qb8_0 qb8_1 qb8_10 qb8_11 qb8_12 qb8_13 qb8_2 qb8_3 qb8_4 qb8_5 qb8_6 qb8_7 qb8_8 qb8_9 qp0 qp10_0 qp10_1 qp10_2 qp10_3 qp10_4 qp10_5 qp10_6 qp10_7 qp10_8 qp10_9 qp12_0 qp12_1 qp12_10 qp12_11 qp12_12 qp12_13 qp12_14 qp12_15 qp12_16 qp12_17 qp12_2 qp12_3 qp12_4 qp12_5 qp12_6 qp12_7 qp12_8 qp12_9 qp14 qp15_0 qp15_1 qp15_2 qp15_3 qp16 qp17_0 qp17_1 qp17_2 qp17_3 qp17_4 qp17_5 qp17_6 qp17_7 qp17_8 qp19 qp20 qp21 qp22 qp23 qp24 qp25 qp26 qp2_0 qp2_1 qp5 qp6 qp7 qp8_0 qp8_1 qp8_10 qp8_11 qp8_12 qp8_13 qp8_2 qp8_3 qp8_4 qp8_5 qp8_6 qp8_7 qp8_8 qp8_9 qs0 qs10_3 qs10_4 qs10_5 qs10_6 qs10_7 qs10_8 qs12_0 qs12_13 qs12_16 qs12_2 qs12_3 qs12_4 qs12_5 qs12_7 qs12_8 qs12_9 qs14 qs15_0 qs15_1 qs15_2 qs16 qs17_0 qs17_1 qs17_4 qs17_5 qs17_6 qs17_7 qs17_8 qs19 qs20 qs21 qs22 qs23 qs24 qs25 qs26 qs2_0 qs2_1 qs5 qs6 qs7 qs8_1 qs8_10 qs8_11 qs8_13 qs8_2 qs8_3 qs8_4 qs8_5 qs8_6 qs8_7
  all_goals exact rfl
noncomputable def KA : List Addr := nat_lit 2 :: nat_lit 3 :: nat_lit 15 :: nat_lit 17 :: nat_lit 18 :: nat_lit 20 :: nat_lit 21 :: nat_lit 22 :: nat_lit 25 :: nat_lit 30 :: nat_lit 31 :: nat_lit 33 :: nat_lit 34 :: nat_lit 36 :: nat_lit 37 :: nat_lit 38 :: nat_lit 40 :: nat_lit 41 :: nat_lit 43 :: nat_lit 44 :: nat_lit 45 :: nat_lit 46 :: nat_lit 47 :: nat_lit 48 :: nat_lit 51 :: nat_lit 58 :: nat_lit 59 :: nat_lit 60 :: nat_lit 63 :: nat_lit 66 :: nat_lit 67 :: nat_lit 68 :: nat_lit 70 :: nat_lit 71 :: nat_lit 73 :: nat_lit 74 :: nat_lit 75 :: nat_lit 78 :: nat_lit 79 :: nat_lit 87 :: nat_lit 89 :: nat_lit 90 :: nat_lit 92 :: nat_lit 93 :: nat_lit 94 :: nat_lit 96 :: nat_lit 97 :: nat_lit 99 :: nat_lit 100 :: nat_lit 101 :: nat_lit 104 :: nat_lit 105 :: nat_lit 106 :: nat_lit 108 :: nat_lit 109 :: nat_lit 111 :: nat_lit 112 :: nat_lit 113 :: nat_lit 115 :: nat_lit 116 :: nat_lit 118 :: nat_lit 119 :: nat_lit 120 :: nat_lit 123 :: nat_lit 124 :: nat_lit 125 :: nat_lit 127 :: nat_lit 128 :: nat_lit 130 :: nat_lit 131 :: nat_lit 132 :: nat_lit 134 :: nat_lit 135 :: nat_lit 137 :: nat_lit 138 :: nat_lit 139 :: nat_lit 141 :: nat_lit 142 :: nat_lit 144 :: nat_lit 145 :: nat_lit 146 :: nat_lit 148 :: nat_lit 149 :: nat_lit 151 :: nat_lit 152 :: nat_lit 153 :: nat_lit 156 :: nat_lit 157 :: nat_lit 158 :: nat_lit 160 :: nat_lit 161 :: nat_lit 163 :: nat_lit 164 :: nat_lit 165 :: nat_lit 167 :: nat_lit 168 :: nat_lit 170 :: nat_lit 171 :: nat_lit 172 :: nat_lit 174 :: nat_lit 175 :: nat_lit 177 :: nat_lit 178 :: nat_lit 179 :: nat_lit 180 :: nat_lit 181 :: nat_lit 182 :: nat_lit 183 :: nat_lit 193 :: nat_lit 195 :: nat_lit 196 :: nat_lit 198 :: nat_lit 199 :: nat_lit 200 :: nat_lit 202 :: nat_lit 203 :: nat_lit 205 :: nat_lit 206 :: nat_lit 207 :: nat_lit 209 :: nat_lit 210 :: nat_lit 212 :: nat_lit 213 :: nat_lit 214 :: nat_lit 216 :: nat_lit 217 :: nat_lit 219 :: nat_lit 220 :: nat_lit 221 :: nat_lit 223 :: nat_lit 224 :: nat_lit 226 :: nat_lit 227 :: nat_lit 228 :: nat_lit 230 :: nat_lit 231 :: nat_lit 233 :: nat_lit 234 :: nat_lit 235 :: nat_lit 238 :: nat_lit 239 :: nat_lit 240 :: nat_lit 242 :: nat_lit 243 :: nat_lit 245 :: nat_lit 246 :: nat_lit 247 :: nat_lit 249 :: nat_lit 250 :: nat_lit 252 :: nat_lit 253 :: nat_lit 254 :: nat_lit 256 :: nat_lit 257 :: nat_lit 259 :: nat_lit 260 :: nat_lit 261 :: nat_lit 262 :: nat_lit 263 :: nat_lit 264 :: nat_lit 265 :: nat_lit 275 :: nat_lit 277 :: nat_lit 278 :: nat_lit 280 :: nat_lit 281 :: nat_lit 282 :: nat_lit 284 :: nat_lit 285 :: nat_lit 287 :: nat_lit 288 :: nat_lit 289 :: nat_lit 292 :: nat_lit 293 :: nat_lit 294 :: nat_lit 297 :: nat_lit 298 :: nat_lit 299 :: nat_lit 302 :: nat_lit 303 :: nat_lit 304 :: nat_lit 306 :: nat_lit 307 :: nat_lit 309 :: nat_lit 310 :: nat_lit 311 :: nat_lit 313 :: nat_lit 314 :: nat_lit 316 :: nat_lit 317 :: nat_lit 318 :: nat_lit 320 :: nat_lit 321 :: nat_lit 323 :: nat_lit 324 :: nat_lit 325 :: nat_lit 327 :: nat_lit 328 :: nat_lit 330 :: nat_lit 331 :: nat_lit 332 :: nat_lit 334 :: nat_lit 335 :: nat_lit 337 :: nat_lit 338 :: nat_lit 339 :: nat_lit 341 :: nat_lit 342 :: nat_lit 344 :: nat_lit 345 :: nat_lit 346 :: nat_lit 348 :: nat_lit 349 :: nat_lit 351 :: nat_lit 352 :: nat_lit 353 :: nat_lit 355 :: nat_lit 356 :: nat_lit 358 :: nat_lit 359 :: nat_lit 360 :: nat_lit 362 :: nat_lit 363 :: nat_lit 365 :: nat_lit 366 :: nat_lit 367 :: nat_lit 369 :: nat_lit 370 :: nat_lit 372 :: nat_lit 373 :: nat_lit 374 :: nat_lit 376 :: nat_lit 377 :: nat_lit 379 :: nat_lit 380 :: nat_lit 381 :: nat_lit 384 :: nat_lit 385 :: nat_lit 386 :: nat_lit 388 :: nat_lit 389 :: nat_lit 391 :: nat_lit 392 :: nat_lit 393 :: nat_lit 394 :: nat_lit 395 :: nat_lit 396 :: nat_lit 397 :: nat_lit 400 :: nat_lit 402 :: nat_lit 403 :: nat_lit 405 :: nat_lit 406 :: nat_lit 407 :: nat_lit 410 :: nat_lit 415 :: nat_lit 416 :: nat_lit 418 :: nat_lit 419 :: nat_lit 421 :: nat_lit 422 :: nat_lit 423 :: nat_lit 424 :: nat_lit 426 :: nat_lit 427 :: nat_lit 429 :: nat_lit 430 :: nat_lit 431 :: nat_lit 432 :: nat_lit 434 :: nat_lit 435 :: nat_lit 437 :: nat_lit 438 :: nat_lit 439 :: nat_lit 440 :: nat_lit 442 :: nat_lit 443 :: nat_lit 445 :: nat_lit 446 :: nat_lit 447 :: nat_lit 448 :: nat_lit 449 :: nat_lit 452 :: nat_lit 455 :: nat_lit 456 :: nat_lit 464 :: nat_lit 466 :: nat_lit 467 :: nat_lit 469 :: nat_lit 470 :: nat_lit 471 :: nat_lit 473 :: nat_lit 474 :: nat_lit 476 :: nat_lit 477 :: nat_lit 478 :: nat_lit 480 :: nat_lit 481 :: nat_lit 483 :: nat_lit 484 :: nat_lit 485 :: nat_lit 487 :: nat_lit 488 :: nat_lit 490 :: nat_lit 491 :: nat_lit 492 :: nat_lit 494 :: nat_lit 495 :: nat_lit 497 :: nat_lit 498 :: nat_lit 499 :: nat_lit 502 :: nat_lit 503 :: nat_lit 504 :: nat_lit 506 :: nat_lit 507 :: nat_lit 509 :: nat_lit 510 :: nat_lit 511 :: nat_lit 513 :: nat_lit 514 :: nat_lit 516 :: nat_lit 517 :: nat_lit 518 :: nat_lit 520 :: nat_lit 521 :: nat_lit 523 :: nat_lit 524 :: nat_lit 525 :: nat_lit 526 :: nat_lit 527 :: nat_lit 528 :: nat_lit 529 :: nat_lit 532 :: nat_lit 534 :: nat_lit 535 :: nat_lit 537 :: nat_lit 538 :: nat_lit 539 :: nat_lit 542 :: nat_lit 543 :: nat_lit 544 :: nat_lit 547 :: nat_lit 548 :: nat_lit 549 :: nat_lit 551 :: nat_lit 552 :: nat_lit 554 :: nat_lit 555 :: nat_lit 556 :: nat_lit 558 :: nat_lit 559 :: nat_lit 561 :: nat_lit 562 :: nat_lit 563 :: nat_lit 565 :: nat_lit 566 :: nat_lit 568 :: nat_lit 569 :: nat_lit 570 :: nat_lit 573 :: nat_lit 574 :: nat_lit 575 :: nat_lit 577 :: nat_lit 578 :: nat_lit 580 :: nat_lit 581 :: []
noncomputable def env41 : Env := { scope := PG.main.scope, locals := mainNs, globals := mainNs, cells := [], code := Value.ref 13, frame := some 14 }
noncomputable def heap46 (P : Params) : Heap := { objs := { toList := [boot_o_0 P, boot_o_1 P, boot_o_2 P, boot_o_3 P, boot_o_4 P, boot_o_5 P, boot_o_6 P, boot_o_7 P, boot_o_8 P, boot_o_9 P, boot_o_10 P, o43 P, o44 P, o45 P, o46 P] } }
noncomputable def tree47 (P : Params) : BT := bn (boot_o_0 P) (bn (boot_o_1 P) (bn (boot_o_3 P) (bl (boot_o_7 P)) (bl (o43 P))) (bn (boot_o_5 P) (bl (boot_o_9 P)) (bl (o45 P)))) (bn (boot_o_2 P) (bn (boot_o_4 P) (bl (boot_o_8 P)) (bl (o44 P))) (bn (boot_o_6 P) (bl (boot_o_10 P)) (bl (o46 P))))
noncomputable def tree87 (P : Params) : BT := bn (boot_o_0 P) (bn (boot_o_1 P) (bn (o50 P) (bn (boot_o_7 P) (bn (o43 P) (bl (o68 P)) (bl (o84 P))) (bn (o60 P) (bl (o44 P)) bz)) (bn (o43 P) (bn (o56 P) (bl (o72 P)) bz) (bn (o64 P) (bl (o80 P)) bz))) (bn (boot_o_5 P) (bn (boot_o_9 P) (bn (o54 P) (bl (o70 P)) (bl (o86 P))) (bn (o62 P) (bl (o43 P)) bz)) (bn (o45 P) (bn (o58 P) (bl (o74 P)) bz) (bn (o66 P) (bl (o82 P)) bz)))) (bn (o49 P) (bn (boot_o_4 P) (bn (boot_o_8 P) (bn (o44 P) (bl (o44 P)) (bl (o85 P))) (bn (o61 P) (bl (o77 P)) bz)) (bn (o51 P) (bn (o57 P) (bl (o73 P)) bz) (bn (o65 P) (bl (o81 P)) bz))) (bn (boot_o_6 P) (bn (boot_o_10 P) (bn (o43 P) (bl (o43 P)) (bl (o87 P))) (bn (o43 P) (bl (o79 P)) bz)) (bn (o46 P) (bn (o59 P) (bl (o43 P)) bz) (bn (o67 P) (bl (o83 P)) bz))))
noncomputable def tree119 (P : Params) : BT := bn (boot_o_0 P) (bn (boot_o_1 P) (bn (o88 P) (bn (boot_o_7 P) (bn (o43 P) (bn (o68 P) (bl (o43 P)) bz) (bn (o90 P) (bl (o119 P)) bz)) (bn (o60 P) (bn (o44 P) (bl (o43 P)) bz) (bl (o44 P)))) (bn (o43 P) (bn (o56 P) (bn (o72 P) (bl (o107 P)) bz) (bl (o91 P))) (bn (o64 P) (bn (o80 P) (bl (o43 P)) bz) (bl (o99 P))))) (bn (boot_o_5 P) (bn (boot_o_9 P) (bn (o54 P) (bn (o70 P) (bl (o105 P)) bz) (bl (o86 P))) (bn (o62 P) (bn (o43 P) (bl (o113 P)) bz) (bl (o97 P)))) (bn (o45 P) (bn (o58 P) (bn (o74 P) (bl (o44 P)) bz) (bl (o93 P))) (bn (o66 P) (bn (o82 P) (bl (o117 P)) bz) (bl (o101 P)))))) (bn (o49 P) (bn (boot_o_4 P) (bn (boot_o_8 P) (bn (o44 P) (bn (o44 P) (bl (o44 P)) bz) (bl (o85 P))) (bn (o61 P) (bn (o77 P) (bl (o112 P)) bz) (bl (o96 P)))) (bn (o89 P) (bn (o57 P) (bn (o73 P) (bl (o43 P)) bz) (bl (o60 P))) (bn (o65 P) (bn (o81 P) (bl (o44 P)) bz) (bl (o100 P))))) (bn (boot_o_6 P) (bn (boot_o_10 P) (bn (o43 P) (bn (o43 P) (bl (o106 P)) bz) (bl (o87 P))) (bn (o43 P) (bn (o79 P) (bl (o114 P)) bz) (bl (o43 P)))) (bn (o46 P) (bn (o59 P) (bn (o43 P) (bl (o110 P)) bz) (bl (o43 P))) (bn (o67 P) (bn (o83 P) (bl (o118 P)) bz) (bl (o102 P))))))
noncomputable def tree227 (P : Params) : BT := bn (boot_o_0 P) (bn (boot_o_1 P) (bn (o120 P) (bn (boot_o_7 P) (bn (o43 P) (bn (o68 P) (bn (o43 P) (bl (o169 P)) bz) (bn (o44 P) (bl (o44 P)) bz)) (bn (o90 P) (bn (o119 P) (bl (o185 P)) bz) (bn (o153 P) (bl (o43 P)) bz))) (bn (o60 P) (bn (o44 P) (bn (o43 P) (bl (o43 P)) bz) (bn (o145 P) (bl (o209 P)) bz)) (bn (o44 P) (bn (o43 P) (bl (o193 P)) bz) (bn (o161 P) (bl (o225 P)) bz)))) (bn (o43 P) (bn (o56 P) (bn (o72 P) (bn (o107 P) (bl (o173 P)) bz) (bn (o141 P) (bl (o205 P)) bz)) (bn (o91 P) (bn (o43 P) (bl (o44 P)) bz) (bn (o157 P) (bl (o221 P)) bz))) (bn (o64 P) (bn (o80 P) (bn (o43 P) (bl (o43 P)) bz) (bn (o44 P) (bl (o213 P)) bz)) (bn (o99 P) (bn (o133 P) (bl (o197 P)) bz) (bl (o165 P)))))) (bn (boot_o_5 P) (bn (boot_o_9 P) (bn (o54 P) (bn (o70 P) (bn (o105 P) (bl (o171 P)) bz) (bn (o43 P) (bl (o43 P)) bz)) (bn (o86 P) (bn (o60 P) (bl (o187 P)) bz) (bn (o43 P) (bl (o219 P)) bz))) (bn (o62 P) (bn (o43 P) (bn (o113 P) (bl (o179 P)) bz) (bn (o147 P) (bl (o211 P)) bz)) (bn (o97 P) (bn (o131 P) (bl (o43 P)) bz) (bn (o44 P) (bl (o227 P)) bz)))) (bn (o45 P) (bn (o58 P) (bn (o74 P) (bn (o44 P) (bl (o44 P)) bz) (bn (o43 P) (bl (o43 P)) bz)) (bn (o93 P) (bn (o127 P) (bl (o43 P)) bz) (bn (o159 P) (bl (o223 P)) bz))) (bn (o66 P) (bn (o82 P) (bn (o117 P) (bl (o183 P)) bz) (bn (o43 P) (bl (o44 P)) bz)) (bn (o101 P) (bn (o135 P) (bl (o199 P)) bz) (bl (o43 P))))))) (bn (o49 P) (bn (boot_o_4 P) (bn (boot_o_8 P) (bn (o44 P) (bn (o44 P) (bn (o44 P) (bl (o43 P)) bz) (bn (o138 P) (bl (o202 P)) bz)) (bn (o85 P) (bn (o43 P) (bl (o186 P)) bz) (bn (o154 P) (bl (o218 P)) bz))) (bn (o61 P) (bn (o77 P) (bn (o112 P) (bl (o178 P)) bz) (bn (o146 P) (bl (o43 P)) bz)) (bn (o96 P) (bn (o44 P) (bl (o194 P)) bz) (bn (o43 P) (bl (o226 P)) bz)))) (bn (o121 P) (bn (o57 P) (bn (o73 P) (bn (o43 P) (bl (o43 P)) bz) (bn (o142 P) (bl (o206 P)) bz)) (bn (o60 P) (bn (o126 P) (bl (o190 P)) bz) (bn (o43 P) (bl (o222 P)) bz))) (bn (o65 P) (bn (o81 P) (bn (o44 P) (bl (o44 P)) bz) (bn (o150 P) (bl (o43 P)) bz)) (bn (o100 P) (bn (o134 P) (bl (o198 P)) bz) (bl (o166 P)))))) (bn (boot_o_6 P) (bn (boot_o_10 P) (bn (o43 P) (bn (o43 P) (bn (o106 P) (bl (o172 P)) bz) (bn (o140 P) (bl (o204 P)) bz)) (bn (o87 P) (bn (o124 P) (bl (o43 P)) bz) (bn (o44 P) (bl (o220 P)) bz))) (bn (o43 P) (bn (o79 P) (bn (o114 P) (bl (o180 P)) bz) (bn (o43 P) (bl (o212 P)) bz)) (bn (o43 P) (bn (o43 P) (bl (o44 P)) bz) (bl (o164 P))))) (bn (o46 P) (bn (o59 P) (bn (o43 P) (bn (o110 P) (bl (o176 P)) bz) (bn (o44 P) (bl (o44 P)) bz)) (bn (o43 P) (bn (o128 P) (bl (o192 P)) bz) (bn (o160 P) (bl (o224 P)) bz))) (bn (o67 P) (bn (o83 P) (bn (o118 P) (bl (o43 P)) bz) (bn (o152 P) (bl (o216 P)) bz)) (bn (o102 P) (bn (o43 P) (bl (o43 P)) bz) (bl (o44 P)))))))
noncomputable def tree228 (P : Params) : BT := bn (boot_o_0 P) (bn (boot_o_1 P) (bn (o228 P) (bn (boot_o_7 P) (bn (o43 P) (bn (o68 P) (bn (o43 P) (bl (o169 P)) bz) (bn (o44 P) (bl (o44 P)) bz)) (bn (o90 P) (bn (o119 P) (bl (o185 P)) bz) (bn (o153 P) (bl (o43 P)) bz))) (bn (o60 P) (bn (o44 P) (bn (o43 P) (bl (o43 P)) bz) (bn (o145 P) (bl (o209 P)) bz)) (bn (o44 P) (bn (o43 P) (bl (o193 P)) bz) (bn (o161 P) (bl (o225 P)) bz)))) (bn (o43 P) (bn (o56 P) (bn (o72 P) (bn (o107 P) (bl (o173 P)) bz) (bn (o141 P) (bl (o205 P)) bz)) (bn (o91 P) (bn (o43 P) (bl (o44 P)) bz) (bn (o157 P) (bl (o221 P)) bz))) (bn (o64 P) (bn (o80 P) (bn (o43 P) (bl (o43 P)) bz) (bn (o44 P) (bl (o213 P)) bz)) (bn (o99 P) (bn (o133 P) (bl (o197 P)) bz) (bl (o165 P)))))) (bn (boot_o_5 P) (bn (boot_o_9 P) (bn (o54 P) (bn (o70 P) (bn (o105 P) (bl (o171 P)) bz) (bn (o43 P) (bl (o43 P)) bz)) (bn (o86 P) (bn (o60 P) (bl (o187 P)) bz) (bn (o43 P) (bl (o219 P)) bz))) (bn (o62 P) (bn (o43 P) (bn (o113 P) (bl (o179 P)) bz) (bn (o147 P) (bl (o211 P)) bz)) (bn (o97 P) (bn (o131 P) (bl (o43 P)) bz) (bn (o44 P) (bl (o227 P)) bz)))) (bn (o45 P) (bn (o58 P) (bn (o74 P) (bn (o44 P) (bl (o44 P)) bz) (bn (o43 P) (bl (o43 P)) bz)) (bn (o93 P) (bn (o127 P) (bl (o43 P)) bz) (bn (o159 P) (bl (o223 P)) bz))) (bn (o66 P) (bn (o82 P) (bn (o117 P) (bl (o183 P)) bz) (bn (o43 P) (bl (o44 P)) bz)) (bn (o101 P) (bn (o135 P) (bl (o199 P)) bz) (bl (o43 P))))))) (bn (o49 P) (bn (boot_o_4 P) (bn (boot_o_8 P) (bn (o44 P) (bn (o44 P) (bn (o44 P) (bl (o43 P)) bz) (bn (o138 P) (bl (o202 P)) bz)) (bn (o85 P) (bn (o43 P) (bl (o186 P)) bz) (bn (o154 P) (bl (o218 P)) bz))) (bn (o61 P) (bn (o77 P) (bn (o112 P) (bl (o178 P)) bz) (bn (o146 P) (bl (o43 P)) bz)) (bn (o96 P) (bn (o44 P) (bl (o194 P)) bz) (bn (o43 P) (bl (o226 P)) bz)))) (bn (o121 P) (bn (o57 P) (bn (o73 P) (bn (o43 P) (bl (o43 P)) bz) (bn (o142 P) (bl (o206 P)) bz)) (bn (o60 P) (bn (o126 P) (bl (o190 P)) bz) (bn (o43 P) (bl (o222 P)) bz))) (bn (o65 P) (bn (o81 P) (bn (o44 P) (bl (o44 P)) bz) (bn (o150 P) (bl (o43 P)) bz)) (bn (o100 P) (bn (o134 P) (bl (o198 P)) bz) (bl (o166 P)))))) (bn (boot_o_6 P) (bn (boot_o_10 P) (bn (o43 P) (bn (o43 P) (bn (o106 P) (bl (o172 P)) bz) (bn (o140 P) (bl (o204 P)) bz)) (bn (o87 P) (bn (o124 P) (bl (o43 P)) bz) (bn (o44 P) (bl (o220 P)) bz))) (bn (o43 P) (bn (o79 P) (bn (o114 P) (bl (o180 P)) bz) (bn (o43 P) (bl (o212 P)) bz)) (bn (o43 P) (bn (o43 P) (bl (o44 P)) bz) (bl (o164 P))))) (bn (o46 P) (bn (o59 P) (bn (o43 P) (bn (o110 P) (bl (o176 P)) bz) (bn (o44 P) (bl (o44 P)) bz)) (bn (o43 P) (bn (o128 P) (bl (o192 P)) bz) (bn (o160 P) (bl (o224 P)) bz))) (bn (o67 P) (bn (o83 P) (bn (o118 P) (bl (o43 P)) bz) (bn (o152 P) (bl (o216 P)) bz)) (bn (o102 P) (bn (o43 P) (bl (o43 P)) bz) (bl (o44 P)))))))
noncomputable def tree313 (P : Params) : BT := bn (boot_o_0 P) (bn (boot_o_1 P) (bn (o230 P) (bn (boot_o_7 P) (bn (o43 P) (bn (o68 P) (bn (o43 P) (bn (o169 P) (bl (o44 P)) bz) (bl (o237 P))) (bn (o44 P) (bl (o44 P)) (bl (o269 P)))) (bn (o90 P) (bn (o119 P) (bl (o185 P)) (bl (o43 P))) (bn (o153 P) (bl (o43 P)) (bl (o285 P))))) (bn (o60 P) (bn (o44 P) (bn (o43 P) (bn (o43 P) (bl (o309 P)) bz) (bl (o245 P))) (bn (o145 P) (bl (o209 P)) (bl (o43 P)))) (bn (o44 P) (bn (o43 P) (bl (o193 P)) (bl (o44 P))) (bn (o161 P) (bl (o225 P)) (bl (o43 P)))))) (bn (o43 P) (bn (o56 P) (bn (o72 P) (bn (o107 P) (bn (o173 P) (bl (o305 P)) bz) (bl (o241 P))) (bn (o141 P) (bl (o205 P)) (bl (o273 P)))) (bn (o91 P) (bn (o43 P) (bl (o44 P)) (bl (o257 P))) (bn (o157 P) (bl (o221 P)) (bl (o43 P))))) (bn (o64 P) (bn (o80 P) (bn (o43 P) (bn (o43 P) (bl (o313 P)) bz) (bl (o43 P))) (bn (o44 P) (bl (o213 P)) (bl (o43 P)))) (bn (o99 P) (bn (o133 P) (bl (o197 P)) (bl (o265 P))) (bn (o165 P) (bl (o60 P)) (bl (o297 P))))))) (bn (boot_o_5 P) (bn (boot_o_9 P) (bn (o54 P) (bn (o70 P) (bn (o105 P) (bn (o171 P) (bl (o43 P)) bz) (bl (o43 P))) (bn (o43 P) (bl (o43 P)) (bl (o271 P)))) (bn (o86 P) (bn (o60 P) (bl (o187 P)) (bl (o255 P))) (bn (o43 P) (bl (o219 P)) (bl (o44 P))))) (bn (o62 P) (bn (o43 P) (bn (o113 P) (bn (o179 P) (bl (o311 P)) bz) (bl (o44 P))) (bn (o147 P) (bl (o211 P)) (bl (o279 P)))) (bn (o97 P) (bn (o131 P) (bl (o43 P)) (bl (o43 P))) (bn (o44 P) (bl (o227 P)) (bl (o295 P)))))) (bn (o45 P) (bn (o58 P) (bn (o74 P) (bn (o44 P) (bn (o44 P) (bl (o307 P)) bz) (bl (o243 P))) (bn (o43 P) (bl (o43 P)) (bl (o44 P)))) (bn (o93 P) (bn (o127 P) (bl (o43 P)) (bl (o259 P))) (bn (o159 P) (bl (o223 P)) (bl (o291 P))))) (bn (o66 P) (bn (o82 P) (bn (o117 P) (bl (o183 P)) (bl (o251 P))) (bn (o43 P) (bl (o44 P)) (bl (o283 P)))) (bn (o101 P) (bn (o135 P) (bl (o199 P)) (bl (o43 P))) (bn (o43 P) (bl (o43 P)) (bl (o299 P)))))))) (bn (o49 P) (bn (boot_o_4 P) (bn (boot_o_8 P) (bn (o44 P) (bn (o44 P) (bn (o44 P) (bn (o43 P) (bl (o302 P)) bz) (bl (o238 P))) (bn (o138 P) (bl (o202 P)) (bl (o43 P)))) (bn (o85 P) (bn (o43 P) (bl (o186 P)) (bl (o44 P))) (bn (o154 P) (bl (o218 P)) (bl (o43 P))))) (bn (o61 P) (bn (o77 P) (bn (o112 P) (bn (o178 P) (bl (o310 P)) bz) (bl (o43 P))) (bn (o146 P) (bl (o43 P)) (bl (o278 P)))) (bn (o96 P) (bn (o44 P) (bl (o194 P)) (bl (o262 P))) (bn (o43 P) (bl (o226 P)) (bl (o44 P)))))) (bn (o231 P) (bn (o57 P) (bn (o73 P) (bn (o43 P) (bn (o43 P) (bl (o306 P)) bz) (bl (o43 P))) (bn (o142 P) (bl (o206 P)) (bl (o43 P)))) (bn (o60 P) (bn (o126 P) (bl (o190 P)) (bl (o258 P))) (bn (o43 P) (bl (o222 P)) (bl (o290 P))))) (bn (o65 P) (bn (o81 P) (bn (o44 P) (bl (o44 P)) (bl (o250 P))) (bn (o150 P) (bl (o43 P)) (bl (o44 P)))) (bn (o100 P) (bn (o134 P) (bl (o198 P)) (bl (o266 P))) (bn (o166 P) (bl (o234 P)) (bl (o298 P))))))) (bn (boot_o_6 P) (bn (boot_o_10 P) (bn (o43 P) (bn (o43 P) (bn (o106 P) (bn (o172 P) (bl (o304 P)) bz) (bl (o44 P))) (bn (o140 P) (bl (o204 P)) (bl (o272 P)))) (bn (o87 P) (bn (o124 P) (bl (o43 P)) (bl (o43 P))) (bn (o44 P) (bl (o220 P)) (bl (o288 P))))) (bn (o43 P) (bn (o79 P) (bn (o114 P) (bn (o180 P) (bl (o312 P)) bz) (bl (o248 P))) (bn (o43 P) (bl (o212 P)) (bl (o280 P)))) (bn (o43 P) (bn (o43 P) (bl (o44 P)) (bl (o264 P))) (bn (o164 P) (bl (o43 P)) (bl (o43 P)))))) (bn (o46 P) (bn (o59 P) (bn (o43 P) (bn (o110 P) (bn (o176 P) (bl (o308 P)) bz) (bl (o244 P))) (bn (o44 P) (bl (o44 P)) (bl (o276 P)))) (bn (o43 P) (bn (o128 P) (bl (o192 P)) (bl (o43 P))) (bn (o160 P) (bl (o224 P)) (bl (o292 P))))) (bn (o67 P) (bn (o83 P) (bn (o118 P) (bl (o43 P)) (bl (o252 P))) (bn (o152 P) (bl (o216 P)) (bl (o284 P)))) (bn (o102 P) (bn (o43 P) (bl (o43 P)) (bl (o44 P))) (bn (o44 P) (bl (o236 P)) (bl (o43 P))))))))
noncomputable def tree314 (P : Params) : BT := bn (boot_o_0 P) (bn (boot_o_1 P) (bn (o314 P) (bn (boot_o_7 P) (bn (o43 P) (bn (o68 P) (bn (o43 P) (bn (o169 P) (bl (o44 P)) bz) (bl (o237 P))) (bn (o44 P) (bl (o44 P)) (bl (o269 P)))) (bn (o90 P) (bn (o119 P) (bl (o185 P)) (bl (o43 P))) (bn (o153 P) (bl (o43 P)) (bl (o285 P))))) (bn (o60 P) (bn (o44 P) (bn (o43 P) (bn (o43 P) (bl (o309 P)) bz) (bl (o245 P))) (bn (o145 P) (bl (o209 P)) (bl (o43 P)))) (bn (o44 P) (bn (o43 P) (bl (o193 P)) (bl (o44 P))) (bn (o161 P) (bl (o225 P)) (bl (o43 P)))))) (bn (o43 P) (bn (o56 P) (bn (o72 P) (bn (o107 P) (bn (o173 P) (bl (o305 P)) bz) (bl (o241 P))) (bn (o141 P) (bl (o205 P)) (bl (o273 P)))) (bn (o91 P) (bn (o43 P) (bl (o44 P)) (bl (o257 P))) (bn (o157 P) (bl (o221 P)) (bl (o43 P))))) (bn (o64 P) (bn (o80 P) (bn (o43 P) (bn (o43 P) (bl (o313 P)) bz) (bl (o43 P))) (bn (o44 P) (bl (o213 P)) (bl (o43 P)))) (bn (o99 P) (bn (o133 P) (bl (o197 P)) (bl (o265 P))) (bn (o165 P) (bl (o60 P)) (bl (o297 P))))))) (bn (boot_o_5 P) (bn (boot_o_9 P) (bn (o54 P) (bn (o70 P) (bn (o105 P) (bn (o171 P) (bl (o43 P)) bz) (bl (o43 P))) (bn (o43 P) (bl (o43 P)) (bl (o271 P)))) (bn (o86 P) (bn (o60 P) (bl (o187 P)) (bl (o255 P))) (bn (o43 P) (bl (o219 P)) (bl (o44 P))))) (bn (o62 P) (bn (o43 P) (bn (o113 P) (bn (o179 P) (bl (o311 P)) bz) (bl (o44 P))) (bn (o147 P) (bl (o211 P)) (bl (o279 P)))) (bn (o97 P) (bn (o131 P) (bl (o43 P)) (bl (o43 P))) (bn (o44 P) (bl (o227 P)) (bl (o295 P)))))) (bn (o45 P) (bn (o58 P) (bn (o74 P) (bn (o44 P) (bn (o44 P) (bl (o307 P)) bz) (bl (o243 P))) (bn (o43 P) (bl (o43 P)) (bl (o44 P)))) (bn (o93 P) (bn (o127 P) (bl (o43 P)) (bl (o259 P))) (bn (o159 P) (bl (o223 P)) (bl (o291 P))))) (bn (o66 P) (bn (o82 P) (bn (o117 P) (bl (o183 P)) (bl (o251 P))) (bn (o43 P) (bl (o44 P)) (bl (o283 P)))) (bn (o101 P) (bn (o135 P) (bl (o199 P)) (bl (o43 P))) (bn (o43 P) (bl (o43 P)) (bl (o299 P)))))))) (bn (o49 P) (bn (boot_o_4 P) (bn (boot_o_8 P) (bn (o44 P) (bn (o44 P) (bn (o44 P) (bn (o43 P) (bl (o302 P)) bz) (bl (o238 P))) (bn (o138 P) (bl (o202 P)) (bl (o43 P)))) (bn (o85 P) (bn (o43 P) (bl (o186 P)) (bl (o44 P))) (bn (o154 P) (bl (o218 P)) (bl (o43 P))))) (bn (o61 P) (bn (o77 P) (bn (o112 P) (bn (o178 P) (bl (o310 P)) bz) (bl (o43 P))) (bn (o146 P) (bl (o43 P)) (bl (o278 P)))) (bn (o96 P) (bn (o44 P) (bl (o194 P)) (bl (o262 P))) (bn (o43 P) (bl (o226 P)) (bl (o44 P)))))) (bn (o231 P) (bn (o57 P) (bn (o73 P) (bn (o43 P) (bn (o43 P) (bl (o306 P)) bz) (bl (o43 P))) (bn (o142 P) (bl (o206 P)) (bl (o43 P)))) (bn (o60 P) (bn (o126 P) (bl (o190 P)) (bl (o258 P))) (bn (o43 P) (bl (o222 P)) (bl (o290 P))))) (bn (o65 P) (bn (o81 P) (bn (o44 P) (bl (o44 P)) (bl (o250 P))) (bn (o150 P) (bl (o43 P)) (bl (o44 P)))) (bn (o100 P) (bn (o134 P) (bl (o198 P)) (bl (o266 P))) (bn (o166 P) (bl (o234 P)) (bl (o298 P))))))) (bn (boot_o_6 P) (bn (boot_o_10 P) (bn (o43 P) (bn (o43 P) (bn (o106 P) (bn (o172 P) (bl (o304 P)) bz) (bl (o44 P))) (bn (o140 P) (bl (o204 P)) (bl (o272 P)))) (bn (o87 P) (bn (o124 P) (bl (o43 P)) (bl (o43 P))) (bn (o44 P) (bl (o220 P)) (bl (o288 P))))) (bn (o43 P) (bn (o79 P) (bn (o114 P) (bn (o180 P) (bl (o312 P)) bz) (bl (o248 P))) (bn (o43 P) (bl (o212 P)) (bl (o280 P)))) (bn (o43 P) (bn (o43 P) (bl (o44 P)) (bl (o264 P))) (bn (o164 P) (bl (o43 P)) (bl (o43 P)))))) (bn (o46 P) (bn (o59 P) (bn (o43 P) (bn (o110 P) (bn (o176 P) (bl (o308 P)) bz) (bl (o244 P))) (bn (o44 P) (bl (o44 P)) (bl (o276 P)))) (bn (o43 P) (bn (o128 P) (bl (o192 P)) (bl (o43 P))) (bn (o160 P) (bl (o224 P)) (bl (o292 P))))) (bn (o67 P) (bn (o83 P) (bn (o118 P) (bl (o43 P)) (bl (o252 P))) (bn (o152 P) (bl (o216 P)) (bl (o284 P)))) (bn (o102 P) (bn (o43 P) (bl (o43 P)) (bl (o44 P))) (bn (o44 P) (bl (o236 P)) (bl (o43 P))))))))
noncomputable def tree449 (P : Params) : BT := bn (boot_o_0 P) (bn (boot_o_1 P) (bn (o316 P) (bn (boot_o_7 P) (bn (o43 P) (bn (o68 P) (bn (o43 P) (bn (o169 P) (bl (o44 P)) (bl (o433 P))) (bn (o237 P) (bl (o44 P)) bz)) (bn (o44 P) (bn (o44 P) (bl (o337 P)) bz) (bn (o269 P) (bl (o401 P)) bz))) (bn (o90 P) (bn (o119 P) (bn (o185 P) (bl (o43 P)) (bl (o449 P))) (bn (o43 P) (bl (o43 P)) bz)) (bn (o153 P) (bn (o43 P) (bl (o353 P)) bz) (bn (o285 P) (bl (o43 P)) bz)))) (bn (o60 P) (bn (o44 P) (bn (o43 P) (bn (o43 P) (bl (o309 P)) (bl (o441 P))) (bn (o245 P) (bl (o377 P)) bz)) (bn (o145 P) (bn (o209 P) (bl (o44 P)) bz) (bn (o43 P) (bl (o409 P)) bz))) (bn (o44 P) (bn (o43 P) (bn (o193 P) (bl (o329 P)) bz) (bn (o44 P) (bl (o393 P)) bz)) (bn (o161 P) (bn (o225 P) (bl (o43 P)) bz) (bn (o43 P) (bl (o44 P)) bz))))) (bn (o43 P) (bn (o56 P) (bn (o72 P) (bn (o107 P) (bn (o173 P) (bl (o305 P)) (bl (o44 P))) (bn (o241 P) (bl (o373 P)) bz)) (bn (o141 P) (bn (o205 P) (bl (o341 P)) bz) (bn (o273 P) (bl (o405 P)) bz))) (bn (o91 P) (bn (o43 P) (bn (o44 P) (bl (o43 P)) bz) (bn (o257 P) (bl (o43 P)) bz)) (bn (o157 P) (bn (o221 P) (bl (o43 P)) bz) (bn (o43 P) (bl (o421 P)) bz)))) (bn (o64 P) (bn (o80 P) (bn (o43 P) (bn (o43 P) (bl (o313 P)) (bl (o445 P))) (bn (o43 P) (bl (o381 P)) bz)) (bn (o44 P) (bn (o213 P) (bl (o43 P)) bz) (bn (o43 P) (bl (o43 P)) bz))) (bn (o99 P) (bn (o133 P) (bn (o197 P) (bl (o44 P)) bz) (bn (o265 P) (bl (o44 P)) bz)) (bn (o165 P) (bn (o60 P) (bl (o365 P)) bz) (bn (o297 P) (bl (o429 P)) bz)))))) (bn (boot_o_5 P) (bn (boot_o_9 P) (bn (o54 P) (bn (o70 P) (bn (o105 P) (bn (o171 P) (bl (o43 P)) (bl (o435 P))) (bn (o43 P) (bl (o43 P)) bz)) (bn (o43 P) (bn (o43 P) (bl (o43 P)) bz) (bn (o271 P) (bl (o43 P)) bz))) (bn (o86 P) (bn (o60 P) (bn (o187 P) (bl (o323 P)) bz) (bn (o255 P) (bl (o387 P)) bz)) (bn (o43 P) (bn (o219 P) (bl (o44 P)) bz) (bn (o44 P) (bl (o419 P)) bz)))) (bn (o62 P) (bn (o43 P) (bn (o113 P) (bn (o179 P) (bl (o311 P)) (bl (o443 P))) (bn (o44 P) (bl (o379 P)) bz)) (bn (o147 P) (bn (o211 P) (bl (o347 P)) bz) (bn (o279 P) (bl (o44 P)) bz))) (bn (o97 P) (bn (o131 P) (bn (o43 P) (bl (o331 P)) bz) (bn (o43 P) (bl (o395 P)) bz)) (bn (o44 P) (bn (o227 P) (bl (o363 P)) bz) (bn (o295 P) (bl (o43 P)) bz))))) (bn (o45 P) (bn (o58 P) (bn (o74 P) (bn (o44 P) (bn (o44 P) (bl (o307 P)) (bl (o43 P))) (bn (o243 P) (bl (o43 P)) bz)) (bn (o43 P) (bn (o43 P) (bl (o343 P)) bz) (bn (o44 P) (bl (o407 P)) bz))) (bn (o93 P) (bn (o127 P) (bn (o43 P) (bl (o327 P)) bz) (bn (o259 P) (bl (o391 P)) bz)) (bn (o159 P) (bn (o223 P) (bl (o359 P)) bz) (bn (o291 P) (bl (o423 P)) bz)))) (bn (o66 P) (bn (o82 P) (bn (o117 P) (bn (o183 P) (bl (o60 P)) (bl (o447 P))) (bn (o251 P) (bl (o44 P)) bz)) (bn (o43 P) (bn (o44 P) (bl (o351 P)) bz) (bn (o283 P) (bl (o415 P)) bz))) (bn (o101 P) (bn (o135 P) (bn (o199 P) (bl (o43 P)) bz) (bn (o43 P) (bl (o43 P)) bz)) (bn (o43 P) (bn (o43 P) (bl (o367 P)) bz) (bn (o299 P) (bl (o43 P)) bz))))))) (bn (o49 P) (bn (boot_o_4 P) (bn (boot_o_8 P) (bn (o44 P) (bn (o44 P) (bn (o44 P) (bn (o43 P) (bl (o302 P)) (bl (o434 P))) (bn (o238 P) (bl (o370 P)) bz)) (bn (o138 P) (bn (o202 P) (bl (o338 P)) bz) (bn (o43 P) (bl (o402 P)) bz))) (bn (o85 P) (bn (o43 P) (bn (o186 P) (bl (o322 P)) bz) (bn (o44 P) (bl (o386 P)) bz)) (bn (o154 P) (bn (o218 P) (bl (o43 P)) bz) (bn (o43 P) (bl (o44 P)) bz)))) (bn (o61 P) (bn (o77 P) (bn (o112 P) (bn (o178 P) (bl (o310 P)) (bl (o442 P))) (bn (o43 P) (bl (o43 P)) bz)) (bn (o146 P) (bn (o43 P) (bl (o346 P)) bz) (bn (o278 P) (bl (o43 P)) bz))) (bn (o96 P) (bn (o44 P) (bn (o194 P) (bl (o330 P)) bz) (bn (o262 P) (bl (o394 P)) bz)) (bn (o43 P) (bn (o226 P) (bl (o44 P)) bz) (bn (o44 P) (bl (o426 P)) bz))))) (bn (o317 P) (bn (o57 P) (bn (o73 P) (bn (o43 P) (bn (o43 P) (bl (o306 P)) (bl (o438 P))) (bn (o43 P) (bl (o374 P)) bz)) (bn (o142 P) (bn (o206 P) (bl (o342 P)) bz) (bn (o43 P) (bl (o43 P)) bz))) (bn (o60 P) (bn (o126 P) (bn (o190 P) (bl (o44 P)) bz) (bn (o258 P) (bl (o44 P)) bz)) (bn (o43 P) (bn (o222 P) (bl (o358 P)) bz) (bn (o290 P) (bl (o422 P)) bz)))) (bn (o65 P) (bn (o81 P) (bn (o44 P) (bn (o44 P) (bl (o43 P)) (bl (o446 P))) (bn (o250 P) (bl (o43 P)) bz)) (bn (o150 P) (bn (o43 P) (bl (o44 P)) bz) (bn (o44 P) (bl (o414 P)) bz))) (bn (o100 P) (bn (o134 P) (bn (o198 P) (bl (o334 P)) bz) (bn (o266 P) (bl (o398 P)) bz)) (bn (o166 P) (bn (o234 P) (bl (o366 P)) bz) (bn (o298 P) (bl (o430 P)) bz)))))) (bn (boot_o_6 P) (bn (boot_o_10 P) (bn (o43 P) (bn (o43 P) (bn (o106 P) (bn (o172 P) (bl (o304 P)) (bl (o43 P))) (bn (o44 P) (bl (o372 P)) bz)) (bn (o140 P) (bn (o204 P) (bl (o44 P)) bz) (bn (o272 P) (bl (o44 P)) bz))) (bn (o87 P) (bn (o124 P) (bn (o43 P) (bl (o324 P)) bz) (bn (o43 P) (bl (o388 P)) bz)) (bn (o44 P) (bn (o220 P) (bl (o356 P)) bz) (bn (o288 P) (bl (o43 P)) bz)))) (bn (o43 P) (bn (o79 P) (bn (o114 P) (bn (o180 P) (bl (o312 P)) (bl (o444 P))) (bn (o248 P) (bl (o380 P)) bz)) (bn (o43 P) (bn (o212 P) (bl (o348 P)) bz) (bn (o280 P) (bl (o412 P)) bz))) (bn (o43 P) (bn (o43 P) (bn (o44 P) (bl (o43 P)) bz) (bn (o264 P) (bl (o43 P)) bz)) (bn (o164 P) (bn (o43 P) (bl (o43 P)) bz) (bn (o43 P) (bl (o428 P)) bz))))) (bn (o46 P) (bn (o59 P) (bn (o43 P) (bn (o110 P) (bn (o176 P) (bl (o308 P)) (bl (o440 P))) (bn (o244 P) (bl (o44 P)) bz)) (bn (o44 P) (bn (o44 P) (bl (o43 P)) bz) (bn (o276 P) (bl (o408 P)) bz))) (bn (o43 P) (bn (o128 P) (bn (o192 P) (bl (o43 P)) bz) (bn (o43 P) (bl (o43 P)) bz)) (bn (o160 P) (bn (o224 P) (bl (o360 P)) bz) (bn (o292 P) (bl (o43 P)) bz)))) (bn (o67 P) (bn (o83 P) (bn (o118 P) (bn (o43 P) (bl (o320 P)) (bl (o448 P))) (bn (o252 P) (bl (o384 P)) bz)) (bn (o152 P) (bn (o216 P) (bl (o352 P)) bz) (bn (o284 P) (bl (o416 P)) bz))) (bn (o102 P) (bn (o43 P) (bn (o43 P) (bl (o336 P)) bz) (bn (o44 P) (bl (o400 P)) bz)) (bn (o44 P) (bn (o236 P) (bl (o43 P)) bz) (bn (o43 P) (bl (o44 P)) bz)))))))
noncomputable def tree458 (P : Params) : BT := bn (boot_o_0 P) (bn (boot_o_1 P) (bn (o450 P) (bn (boot_o_7 P) (bn (o43 P) (bn (o68 P) (bn (o43 P) (bn (o169 P) (bl (o44 P)) (bl (o433 P))) (bn (o237 P) (bl (o44 P)) bz)) (bn (o44 P) (bn (o44 P) (bl (o337 P)) bz) (bn (o269 P) (bl (o401 P)) bz))) (bn (o90 P) (bn (o119 P) (bn (o185 P) (bl (o43 P)) (bl (o449 P))) (bn (o43 P) (bl (o43 P)) bz)) (bn (o153 P) (bn (o43 P) (bl (o353 P)) bz) (bn (o285 P) (bl (o43 P)) bz)))) (bn (o60 P) (bn (o44 P) (bn (o43 P) (bn (o43 P) (bl (o309 P)) (bl (o441 P))) (bn (o245 P) (bl (o377 P)) bz)) (bn (o145 P) (bn (o209 P) (bl (o44 P)) bz) (bn (o43 P) (bl (o409 P)) bz))) (bn (o44 P) (bn (o43 P) (bn (o193 P) (bl (o329 P)) bz) (bn (o44 P) (bl (o393 P)) bz)) (bn (o161 P) (bn (o225 P) (bl (o43 P)) bz) (bn (o43 P) (bl (o44 P)) bz))))) (bn (o43 P) (bn (o56 P) (bn (o72 P) (bn (o107 P) (bn (o173 P) (bl (o305 P)) (bl (o44 P))) (bn (o241 P) (bl (o373 P)) bz)) (bn (o141 P) (bn (o205 P) (bl (o341 P)) bz) (bn (o273 P) (bl (o405 P)) bz))) (bn (o91 P) (bn (o43 P) (bn (o44 P) (bl (o43 P)) (bl (o43 P))) (bn (o257 P) (bl (o43 P)) bz)) (bn (o157 P) (bn (o221 P) (bl (o43 P)) bz) (bn (o43 P) (bl (o421 P)) bz)))) (bn (o64 P) (bn (o80 P) (bn (o43 P) (bn (o43 P) (bl (o313 P)) (bl (o445 P))) (bn (o43 P) (bl (o381 P)) bz)) (bn (o44 P) (bn (o213 P) (bl (o43 P)) bz) (bn (o43 P) (bl (o43 P)) bz))) (bn (o99 P) (bn (o133 P) (bn (o197 P) (bl (o44 P)) bz) (bn (o265 P) (bl (o44 P)) bz)) (bn (o165 P) (bn (o60 P) (bl (o365 P)) bz) (bn (o297 P) (bl (o429 P)) bz)))))) (bn (boot_o_5 P) (bn (boot_o_9 P) (bn (o54 P) (bn (o70 P) (bn (o105 P) (bn (o171 P) (bl (o43 P)) (bl (o435 P))) (bn (o43 P) (bl (o43 P)) bz)) (bn (o43 P) (bn (o43 P) (bl (o43 P)) bz) (bn (o271 P) (bl (o43 P)) bz))) (bn (o86 P) (bn (o60 P) (bn (o187 P) (bl (o323 P)) (bl (o44 P))) (bn (o255 P) (bl (o387 P)) bz)) (bn (o43 P) (bn (o219 P) (bl (o44 P)) bz) (bn (o44 P) (bl (o419 P)) bz)))) (bn (o62 P) (bn (o43 P) (bn (o113 P) (bn (o179 P) (bl (o311 P)) (bl (o443 P))) (bn (o44 P) (bl (o379 P)) bz)) (bn (o147 P) (bn (o211 P) (bl (o347 P)) bz) (bn (o279 P) (bl (o44 P)) bz))) (bn (o97 P) (bn (o131 P) (bn (o43 P) (bl (o331 P)) bz) (bn (o43 P) (bl (o395 P)) bz)) (bn (o44 P) (bn (o227 P) (bl (o363 P)) bz) (bn (o295 P) (bl (o43 P)) bz))))) (bn (o45 P) (bn (o58 P) (bn (o74 P) (bn (o44 P) (bn (o44 P) (bl (o307 P)) (bl (o43 P))) (bn (o243 P) (bl (o43 P)) bz)) (bn (o43 P) (bn (o43 P) (bl (o343 P)) bz) (bn (o44 P) (bl (o407 P)) bz))) (bn (o93 P) (bn (o127 P) (bn (o43 P) (bl (o327 P)) (bl (o457 P))) (bn (o259 P) (bl (o391 P)) bz)) (bn (o159 P) (bn (o223 P) (bl (o359 P)) bz) (bn (o291 P) (bl (o423 P)) bz)))) (bn (o66 P) (bn (o82 P) (bn (o117 P) (bn (o183 P) (bl (o60 P)) (bl (o447 P))) (bn (o251 P) (bl (o44 P)) bz)) (bn (o43 P) (bn (o44 P) (bl (o351 P)) bz) (bn (o283 P) (bl (o415 P)) bz))) (bn (o101 P) (bn (o135 P) (bn (o199 P) (bl (o43 P)) bz) (bn (o43 P) (bl (o43 P)) bz)) (bn (o43 P) (bn (o43 P) (bl (o367 P)) bz) (bn (o299 P) (bl (o43 P)) bz))))))) (bn (o49 P) (bn (boot_o_4 P) (bn (boot_o_8 P) (bn (o44 P) (bn (o44 P) (bn (o44 P) (bn (o43 P) (bl (o302 P)) (bl (o434 P))) (bn (o238 P) (bl (o370 P)) bz)) (bn (o138 P) (bn (o202 P) (bl (o338 P)) bz) (bn (o43 P) (bl (o402 P)) bz))) (bn (o85 P) (bn (o43 P) (bn (o186 P) (bl (o322 P)) (bl (o43 P))) (bn (o44 P) (bl (o386 P)) bz)) (bn (o154 P) (bn (o218 P) (bl (o43 P)) bz) (bn (o43 P) (bl (o44 P)) bz)))) (bn (o61 P) (bn (o77 P) (bn (o112 P) (bn (o178 P) (bl (o310 P)) (bl (o442 P))) (bn (o43 P) (bl (o43 P)) bz)) (bn (o146 P) (bn (o43 P) (bl (o346 P)) bz) (bn (o278 P) (bl (o43 P)) bz))) (bn (o96 P) (bn (o44 P) (bn (o194 P) (bl (o330 P)) bz) (bn (o262 P) (bl (o394 P)) bz)) (bn (o43 P) (bn (o226 P) (bl (o44 P)) bz) (bn (o44 P) (bl (o426 P)) bz))))) (bn (o451 P) (bn (o57 P) (bn (o73 P) (bn (o43 P) (bn (o43 P) (bl (o306 P)) (bl (o438 P))) (bn (o43 P) (bl (o374 P)) bz)) (bn (o142 P) (bn (o206 P) (bl (o342 P)) bz) (bn (o43 P) (bl (o43 P)) bz))) (bn (o60 P) (bn (o126 P) (bn (o190 P) (bl (o44 P)) (bl (o456 P))) (bn (o258 P) (bl (o44 P)) bz)) (bn (o43 P) (bn (o222 P) (bl (o358 P)) bz) (bn (o290 P) (bl (o422 P)) bz)))) (bn (o65 P) (bn (o81 P) (bn (o44 P) (bn (o44 P) (bl (o43 P)) (bl (o446 P))) (bn (o250 P) (bl (o43 P)) bz)) (bn (o150 P) (bn (o43 P) (bl (o44 P)) bz) (bn (o44 P) (bl (o414 P)) bz))) (bn (o100 P) (bn (o134 P) (bn (o198 P) (bl (o334 P)) bz) (bn (o266 P) (bl (o398 P)) bz)) (bn (o166 P) (bn (o234 P) (bl (o366 P)) bz) (bn (o298 P) (bl (o430 P)) bz)))))) (bn (boot_o_6 P) (bn (boot_o_10 P) (bn (o43 P) (bn (o43 P) (bn (o106 P) (bn (o172 P) (bl (o304 P)) (bl (o43 P))) (bn (o44 P) (bl (o372 P)) bz)) (bn (o140 P) (bn (o204 P) (bl (o44 P)) bz) (bn (o272 P) (bl (o44 P)) bz))) (bn (o87 P) (bn (o124 P) (bn (o43 P) (bl (o324 P)) (bl (o454 P))) (bn (o43 P) (bl (o388 P)) bz)) (bn (o44 P) (bn (o220 P) (bl (o356 P)) bz) (bn (o288 P) (bl (o43 P)) bz)))) (bn (o43 P) (bn (o79 P) (bn (o114 P) (bn (o180 P) (bl (o312 P)) (bl (o444 P))) (bn (o248 P) (bl (o380 P)) bz)) (bn (o43 P) (bn (o212 P) (bl (o348 P)) bz) (bn (o280 P) (bl (o412 P)) bz))) (bn (o43 P) (bn (o43 P) (bn (o44 P) (bl (o43 P)) bz) (bn (o264 P) (bl (o43 P)) bz)) (bn (o164 P) (bn (o43 P) (bl (o43 P)) bz) (bn (o43 P) (bl (o428 P)) bz))))) (bn (o46 P) (bn (o59 P) (bn (o43 P) (bn (o110 P) (bn (o176 P) (bl (o308 P)) (bl (o440 P))) (bn (o244 P) (bl (o44 P)) bz)) (bn (o44 P) (bn (o44 P) (bl (o43 P)) bz) (bn (o276 P) (bl (o408 P)) bz))) (bn (o43 P) (bn (o128 P) (bn (o192 P) (bl (o43 P)) (bl (o458 P))) (bn (o43 P) (bl (o43 P)) bz)) (bn (o160 P) (bn (o224 P) (bl (o360 P)) bz) (bn (o292 P) (bl (o43 P)) bz)))) (bn (o67 P) (bn (o83 P) (bn (o118 P) (bn (o43 P) (bl (o320 P)) (bl (o448 P))) (bn (o252 P) (bl (o384 P)) bz)) (bn (o152 P) (bn (o216 P) (bl (o352 P)) bz) (bn (o284 P) (bl (o416 P)) bz))) (bn (o102 P) (bn (o43 P) (bn (o43 P) (bl (o336 P)) bz) (bn (o44 P) (bl (o400 P)) bz)) (bn (o44 P) (bn (o236 P) (bl (o43 P)) bz) (bn (o43 P) (bl (o44 P)) bz)))))))
noncomputable def tree511 (P : Params) : BT := bn (boot_o_0 P) (bn (boot_o_1 P) (bn (o459 P) (bn (boot_o_7 P) (bn (o43 P) (bn (o68 P) (bn (o43 P) (bn (o169 P) (bl (o44 P)) (bl (o433 P))) (bn (o237 P) (bl (o44 P)) (bl (o502 P)))) (bn (o44 P) (bn (o44 P) (bl (o337 P)) (bl (o470 P))) (bn (o269 P) (bl (o401 P)) bz))) (bn (o90 P) (bn (o119 P) (bn (o185 P) (bl (o43 P)) (bl (o449 P))) (bn (o43 P) (bl (o43 P)) bz)) (bn (o153 P) (bn (o43 P) (bl (o353 P)) (bl (o470 P))) (bn (o285 P) (bl (o43 P)) bz)))) (bn (o60 P) (bn (o44 P) (bn (o43 P) (bn (o43 P) (bl (o309 P)) (bl (o441 P))) (bn (o245 P) (bl (o377 P)) (bl (o510 P)))) (bn (o145 P) (bn (o209 P) (bl (o44 P)) (bl (o470 P))) (bn (o43 P) (bl (o409 P)) bz))) (bn (o44 P) (bn (o43 P) (bn (o193 P) (bl (o329 P)) (bl (o462 P))) (bn (o44 P) (bl (o393 P)) bz)) (bn (o161 P) (bn (o225 P) (bl (o43 P)) (bl (o470 P))) (bn (o43 P) (bl (o44 P)) bz))))) (bn (o43 P) (bn (o56 P) (bn (o72 P) (bn (o107 P) (bn (o173 P) (bl (o305 P)) (bl (o44 P))) (bn (o241 P) (bl (o373 P)) (bl (o506 P)))) (bn (o141 P) (bn (o205 P) (bl (o341 P)) (bl (o43 P))) (bn (o273 P) (bl (o405 P)) bz))) (bn (o91 P) (bn (o43 P) (bn (o44 P) (bl (o43 P)) (bl (o43 P))) (bn (o257 P) (bl (o43 P)) bz)) (bn (o157 P) (bn (o221 P) (bl (o43 P)) (bl (o43 P))) (bn (o43 P) (bl (o421 P)) bz)))) (bn (o64 P) (bn (o80 P) (bn (o43 P) (bn (o43 P) (bl (o313 P)) (bl (o461 P))) (bn (o43 P) (bl (o381 P)) bz)) (bn (o44 P) (bn (o213 P) (bl (o43 P)) (bl (o43 P))) (bn (o43 P) (bl (o43 P)) bz))) (bn (o99 P) (bn (o133 P) (bn (o197 P) (bl (o44 P)) (bl (o43 P))) (bn (o265 P) (bl (o44 P)) bz)) (bn (o165 P) (bn (o60 P) (bl (o365 P)) (bl (o43 P))) (bn (o297 P) (bl (o429 P)) bz)))))) (bn (boot_o_5 P) (bn (boot_o_9 P) (bn (o54 P) (bn (o70 P) (bn (o105 P) (bn (o171 P) (bl (o43 P)) (bl (o435 P))) (bn (o43 P) (bl (o43 P)) (bl (o504 P)))) (bn (o43 P) (bn (o43 P) (bl (o43 P)) (bl (o44 P))) (bn (o271 P) (bl (o43 P)) bz))) (bn (o86 P) (bn (o60 P) (bn (o187 P) (bl (o323 P)) (bl (o44 P))) (bn (o255 P) (bl (o387 P)) bz)) (bn (o43 P) (bn (o219 P) (bl (o44 P)) (bl (o44 P))) (bn (o44 P) (bl (o419 P)) bz)))) (bn (o62 P) (bn (o43 P) (bn (o113 P) (bn (o179 P) (bl (o311 P)) (bl (o443 P))) (bn (o44 P) (bl (o379 P)) bz)) (bn (o147 P) (bn (o211 P) (bl (o347 P)) (bl (o44 P))) (bn (o279 P) (bl (o44 P)) bz))) (bn (o97 P) (bn (o131 P) (bn (o43 P) (bl (o331 P)) (bl (o464 P))) (bn (o43 P) (bl (o395 P)) bz)) (bn (o44 P) (bn (o227 P) (bl (o363 P)) (bl (o44 P))) (bn (o295 P) (bl (o43 P)) bz))))) (bn (o45 P) (bn (o58 P) (bn (o74 P) (bn (o44 P) (bn (o44 P) (bl (o307 P)) (bl (o43 P))) (bn (o243 P) (bl (o43 P)) (bl (o44 P)))) (bn (o43 P) (bn (o43 P) (bl (o343 P)) (bl (o476 P))) (bn (o44 P) (bl (o407 P)) bz))) (bn (o93 P) (bn (o127 P) (bn (o43 P) (bl (o327 P)) (bl (o457 P))) (bn (o259 P) (bl (o391 P)) bz)) (bn (o159 P) (bn (o223 P) (bl (o359 P)) (bl (o492 P))) (bn (o291 P) (bl (o423 P)) bz)))) (bn (o66 P) (bn (o82 P) (bn (o117 P) (bn (o183 P) (bl (o60 P)) (bl (o447 P))) (bn (o251 P) (bl (o44 P)) bz)) (bn (o43 P) (bn (o44 P) (bl (o351 P)) (bl (o484 P))) (bn (o283 P) (bl (o415 P)) bz))) (bn (o101 P) (bn (o135 P) (bn (o199 P) (bl (o43 P)) (bl (o468 P))) (bn (o43 P) (bl (o43 P)) bz)) (bn (o43 P) (bn (o43 P) (bl (o367 P)) (bl (o500 P))) (bn (o299 P) (bl (o43 P)) bz))))))) (bn (o49 P) (bn (boot_o_4 P) (bn (boot_o_8 P) (bn (o44 P) (bn (o44 P) (bn (o44 P) (bn (o43 P) (bl (o302 P)) (bl (o434 P))) (bn (o238 P) (bl (o370 P)) (bl (o503 P)))) (bn (o138 P) (bn (o202 P) (bl (o338 P)) (bl (o471 P))) (bn (o43 P) (bl (o402 P)) bz))) (bn (o85 P) (bn (o43 P) (bn (o186 P) (bl (o322 P)) (bl (o43 P))) (bn (o44 P) (bl (o386 P)) bz)) (bn (o154 P) (bn (o218 P) (bl (o43 P)) (bl (o487 P))) (bn (o43 P) (bl (o44 P)) bz)))) (bn (o61 P) (bn (o77 P) (bn (o112 P) (bn (o178 P) (bl (o310 P)) (bl (o442 P))) (bn (o43 P) (bl (o43 P)) (bl (o511 P)))) (bn (o146 P) (bn (o43 P) (bl (o346 P)) (bl (o479 P))) (bn (o278 P) (bl (o43 P)) bz))) (bn (o96 P) (bn (o44 P) (bn (o194 P) (bl (o330 P)) (bl (o60 P))) (bn (o262 P) (bl (o394 P)) bz)) (bn (o43 P) (bn (o226 P) (bl (o44 P)) (bl (o495 P))) (bn (o44 P) (bl (o426 P)) bz))))) (bn (o460 P) (bn (o57 P) (bn (o73 P) (bn (o43 P) (bn (o43 P) (bl (o306 P)) (bl (o438 P))) (bn (o43 P) (bl (o374 P)) (bl (o43 P)))) (bn (o142 P) (bn (o206 P) (bl (o342 P)) (bl (o475 P))) (bn (o43 P) (bl (o43 P)) bz))) (bn (o60 P) (bn (o126 P) (bn (o190 P) (bl (o44 P)) (bl (o456 P))) (bn (o258 P) (bl (o44 P)) bz)) (bn (o43 P) (bn (o222 P) (bl (o358 P)) (bl (o491 P))) (bn (o290 P) (bl (o422 P)) bz)))) (bn (o65 P) (bn (o81 P) (bn (o44 P) (bn (o44 P) (bl (o43 P)) (bl (o446 P))) (bn (o250 P) (bl (o43 P)) bz)) (bn (o150 P) (bn (o43 P) (bl (o44 P)) (bl (o483 P))) (bn (o44 P) (bl (o414 P)) bz))) (bn (o100 P) (bn (o134 P) (bn (o198 P) (bl (o334 P)) (bl (o467 P))) (bn (o266 P) (bl (o398 P)) bz)) (bn (o166 P) (bn (o234 P) (bl (o366 P)) (bl (o499 P))) (bn (o298 P) (bl (o430 P)) bz)))))) (bn (boot_o_6 P) (bn (boot_o_10 P) (bn (o43 P) (bn (o43 P) (bn (o106 P) (bn (o172 P) (bl (o304 P)) (bl (o43 P))) (bn (o44 P) (bl (o372 P)) (bl (o505 P)))) (bn (o140 P) (bn (o204 P) (bl (o44 P)) (bl (o473 P))) (bn (o272 P) (bl (o44 P)) bz))) (bn (o87 P) (bn (o124 P) (bn (o43 P) (bl (o324 P)) (bl (o454 P))) (bn (o43 P) (bl (o388 P)) bz)) (bn (o44 P) (bn (o220 P) (bl (o356 P)) (bl (o489 P))) (bn (o288 P) (bl (o43 P)) bz)))) (bn (o43 P) (bn (o79 P) (bn (o114 P) (bn (o180 P) (bl (o312 P)) (bl (o444 P))) (bn (o248 P) (bl (o380 P)) bz)) (bn (o43 P) (bn (o212 P) (bl (o348 P)) (bl (o481 P))) (bn (o280 P) (bl (o412 P)) bz))) (bn (o43 P) (bn (o43 P) (bn (o44 P) (bl (o43 P)) (bl (o465 P))) (bn (o264 P) (bl (o43 P)) bz)) (bn (o164 P) (bn (o43 P) (bl (o43 P)) (bl (o497 P))) (bn (o43 P) (bl (o428 P)) bz))))) (bn (o46 P) (bn (o59 P) (bn (o43 P) (bn (o110 P) (bn (o176 P) (bl (o308 P)) (bl (o440 P))) (bn (o244 P) (bl (o44 P)) (bl (o509 P)))) (bn (o44 P) (bn (o44 P) (bl (o43 P)) (bl (o477 P))) (bn (o276 P) (bl (o408 P)) bz))) (bn (o43 P) (bn (o128 P) (bn (o192 P) (bl (o43 P)) (bl (o458 P))) (bn (o43 P) (bl (o43 P)) bz)) (bn (o160 P) (bn (o224 P) (bl (o360 P)) (bl (o493 P))) (bn (o292 P) (bl (o43 P)) bz)))) (bn (o67 P) (bn (o83 P) (bn (o118 P) (bn (o43 P) (bl (o320 P)) (bl (o448 P))) (bn (o252 P) (bl (o384 P)) bz)) (bn (o152 P) (bn (o216 P) (bl (o352 P)) (bl (o485 P))) (bn (o284 P) (bl (o416 P)) bz))) (bn (o102 P) (bn (o43 P) (bn (o43 P) (bl (o336 P)) (bl (o469 P))) (bn (o44 P) (bl (o400 P)) bz)) (bn (o44 P) (bn (o236 P) (bl (o43 P)) (bl (o501 P))) (bn (o43 P) (bl (o44 P)) bz)))))))
noncomputable def tree588 (P : Params) : BT := bn (boot_o_0 P) (bn (boot_o_1 P) (bn (o512 P) (bn (boot_o_7 P) (bn (o43 P) (bn (o68 P) (bn (o43 P) (bn (o169 P) (bn (o44 P) (bl (o43 P)) bz) (bl (o433 P))) (bn (o237 P) (bl (o44 P)) (bl (o502 P)))) (bn (o44 P) (bn (o44 P) (bl (o337 P)) (bl (o470 P))) (bn (o269 P) (bl (o401 P)) (bl (o44 P))))) (bn (o90 P) (bn (o119 P) (bn (o185 P) (bn (o43 P) (bl (o584 P)) bz) (bl (o449 P))) (bn (o43 P) (bl (o43 P)) (bl (o520 P)))) (bn (o153 P) (bn (o43 P) (bl (o353 P)) (bl (o470 P))) (bn (o285 P) (bl (o43 P)) (bl (o43 P)))))) (bn (o60 P) (bn (o44 P) (bn (o43 P) (bn (o43 P) (bn (o309 P) (bl (o44 P)) bz) (bl (o441 P))) (bn (o245 P) (bl (o377 P)) (bl (o510 P)))) (bn (o145 P) (bn (o209 P) (bl (o44 P)) (bl (o470 P))) (bn (o43 P) (bl (o409 P)) (bl (o544 P))))) (bn (o44 P) (bn (o43 P) (bn (o193 P) (bl (o329 P)) (bl (o462 P))) (bn (o44 P) (bl (o393 P)) (bl (o43 P)))) (bn (o161 P) (bn (o225 P) (bl (o43 P)) (bl (o470 P))) (bn (o43 P) (bl (o44 P)) (bl (o560 P))))))) (bn (o43 P) (bn (o56 P) (bn (o72 P) (bn (o107 P) (bn (o173 P) (bn (o305 P) (bl (o572 P)) bz) (bl (o44 P))) (bn (o241 P) (bl (o373 P)) (bl (o506 P)))) (bn (o141 P) (bn (o205 P) (bl (o341 P)) (bl (o43 P))) (bn (o273 P) (bl (o405 P)) (bl (o540 P))))) (bn (o91 P) (bn (o43 P) (bn (o44 P) (bn (o43 P) (bl (o588 P)) bz) (bl (o43 P))) (bn (o257 P) (bl (o43 P)) (bl (o43 P)))) (bn (o157 P) (bn (o221 P) (bl (o43 P)) (bl (o43 P))) (bn (o43 P) (bl (o421 P)) (bl (o43 P)))))) (bn (o64 P) (bn (o80 P) (bn (o43 P) (bn (o43 P) (bn (o313 P) (bl (o580 P)) bz) (bl (o461 P))) (bn (o43 P) (bl (o381 P)) (bl (o516 P)))) (bn (o44 P) (bn (o213 P) (bl (o43 P)) (bl (o43 P))) (bn (o43 P) (bl (o43 P)) (bl (o548 P))))) (bn (o99 P) (bn (o133 P) (bn (o197 P) (bl (o44 P)) (bl (o43 P))) (bn (o265 P) (bl (o44 P)) (bl (o532 P)))) (bn (o165 P) (bn (o60 P) (bl (o365 P)) (bl (o43 P))) (bn (o297 P) (bl (o429 P)) (bl (o43 P)))))))) (bn (boot_o_5 P) (bn (boot_o_9 P) (bn (o54 P) (bn (o70 P) (bn (o105 P) (bn (o171 P) (bn (o43 P) (bl (o570 P)) bz) (bl (o435 P))) (bn (o43 P) (bl (o43 P)) (bl (o504 P)))) (bn (o43 P) (bn (o43 P) (bl (o43 P)) (bl (o44 P))) (bn (o271 P) (bl (o43 P)) (bl (o43 P))))) (bn (o86 P) (bn (o60 P) (bn (o187 P) (bn (o323 P) (bl (o586 P)) bz) (bl (o44 P))) (bn (o255 P) (bl (o387 P)) (bl (o44 P)))) (bn (o43 P) (bn (o219 P) (bl (o44 P)) (bl (o44 P))) (bn (o44 P) (bl (o419 P)) (bl (o554 P)))))) (bn (o62 P) (bn (o43 P) (bn (o113 P) (bn (o179 P) (bn (o311 P) (bl (o43 P)) bz) (bl (o443 P))) (bn (o44 P) (bl (o379 P)) (bl (o43 P)))) (bn (o147 P) (bn (o211 P) (bl (o347 P)) (bl (o44 P))) (bn (o279 P) (bl (o44 P)) (bl (o546 P))))) (bn (o97 P) (bn (o131 P) (bn (o43 P) (bl (o331 P)) (bl (o464 P))) (bn (o43 P) (bl (o395 P)) (bl (o530 P)))) (bn (o44 P) (bn (o227 P) (bl (o363 P)) (bl (o44 P))) (bn (o295 P) (bl (o43 P)) (bl (o44 P))))))) (bn (o45 P) (bn (o58 P) (bn (o74 P) (bn (o44 P) (bn (o44 P) (bn (o307 P) (bl (o574 P)) bz) (bl (o43 P))) (bn (o243 P) (bl (o43 P)) (bl (o44 P)))) (bn (o43 P) (bn (o43 P) (bl (o343 P)) (bl (o476 P))) (bn (o44 P) (bl (o407 P)) (bl (o43 P))))) (bn (o93 P) (bn (o127 P) (bn (o43 P) (bl (o327 P)) (bl (o457 P))) (bn (o259 P) (bl (o391 P)) (bl (o526 P)))) (bn (o159 P) (bn (o223 P) (bl (o359 P)) (bl (o492 P))) (bn (o291 P) (bl (o423 P)) (bl (o558 P)))))) (bn (o66 P) (bn (o82 P) (bn (o117 P) (bn (o183 P) (bn (o60 P) (bl (o582 P)) bz) (bl (o447 P))) (bn (o251 P) (bl (o44 P)) (bl (o518 P)))) (bn (o43 P) (bn (o44 P) (bl (o351 P)) (bl (o484 P))) (bn (o283 P) (bl (o415 P)) (bl (o44 P))))) (bn (o101 P) (bn (o135 P) (bn (o199 P) (bl (o43 P)) (bl (o468 P))) (bn (o43 P) (bl (o43 P)) (bl (o534 P)))) (bn (o43 P) (bn (o43 P) (bl (o367 P)) (bl (o500 P))) (bn (o299 P) (bl (o43 P)) (bl (o566 P))))))))) (bn (o49 P) (bn (boot_o_4 P) (bn (boot_o_8 P) (bn (o44 P) (bn (o44 P) (bn (o44 P) (bn (o43 P) (bn (o302 P) (bl (o44 P)) bz) (bl (o434 P))) (bn (o238 P) (bl (o370 P)) (bl (o503 P)))) (bn (o138 P) (bn (o202 P) (bl (o338 P)) (bl (o471 P))) (bn (o43 P) (bl (o402 P)) (bl (o537 P))))) (bn (o85 P) (bn (o43 P) (bn (o186 P) (bn (o322 P) (bl (o585 P)) bz) (bl (o43 P))) (bn (o44 P) (bl (o386 P)) (bl (o43 P)))) (bn (o154 P) (bn (o218 P) (bl (o43 P)) (bl (o487 P))) (bn (o43 P) (bl (o44 P)) (bl (o553 P)))))) (bn (o61 P) (bn (o77 P) (bn (o112 P) (bn (o178 P) (bn (o310 P) (bl (o577 P)) bz) (bl (o442 P))) (bn (o43 P) (bl (o43 P)) (bl (o511 P)))) (bn (o146 P) (bn (o43 P) (bl (o346 P)) (bl (o479 P))) (bn (o278 P) (bl (o43 P)) (bl (o43 P))))) (bn (o96 P) (bn (o44 P) (bn (o194 P) (bl (o330 P)) (bl (o60 P))) (bn (o262 P) (bl (o394 P)) (bl (o44 P)))) (bn (o43 P) (bn (o226 P) (bl (o44 P)) (bl (o495 P))) (bn (o44 P) (bl (o426 P)) (bl (o43 P))))))) (bn (o513 P) (bn (o57 P) (bn (o73 P) (bn (o43 P) (bn (o43 P) (bn (o306 P) (bl (o573 P)) bz) (bl (o438 P))) (bn (o43 P) (bl (o374 P)) (bl (o43 P)))) (bn (o142 P) (bn (o206 P) (bl (o342 P)) (bl (o475 P))) (bn (o43 P) (bl (o43 P)) (bl (o541 P))))) (bn (o60 P) (bn (o126 P) (bn (o190 P) (bl (o44 P)) (bl (o456 P))) (bn (o258 P) (bl (o44 P)) (bl (o525 P)))) (bn (o43 P) (bn (o222 P) (bl (o358 P)) (bl (o491 P))) (bn (o290 P) (bl (o422 P)) (bl (o44 P)))))) (bn (o65 P) (bn (o81 P) (bn (o44 P) (bn (o44 P) (bn (o43 P) (bl (o581 P)) bz) (bl (o446 P))) (bn (o250 P) (bl (o43 P)) (bl (o43 P)))) (bn (o150 P) (bn (o43 P) (bl (o44 P)) (bl (o483 P))) (bn (o44 P) (bl (o414 P)) (bl (o43 P))))) (bn (o100 P) (bn (o134 P) (bn (o198 P) (bl (o334 P)) (bl (o467 P))) (bn (o266 P) (bl (o398 P)) (bl (o533 P)))) (bn (o166 P) (bn (o234 P) (bl (o366 P)) (bl (o499 P))) (bn (o298 P) (bl (o430 P)) (bl (o565 P)))))))) (bn (boot_o_6 P) (bn (boot_o_10 P) (bn (o43 P) (bn (o43 P) (bn (o106 P) (bn (o172 P) (bn (o304 P) (bl (o43 P)) bz) (bl (o43 P))) (bn (o44 P) (bl (o372 P)) (bl (o505 P)))) (bn (o140 P) (bn (o204 P) (bl (o44 P)) (bl (o473 P))) (bn (o272 P) (bl (o44 P)) (bl (o539 P))))) (bn (o87 P) (bn (o124 P) (bn (o43 P) (bn (o324 P) (bl (o587 P)) bz) (bl (o454 P))) (bn (o43 P) (bl (o388 P)) (bl (o523 P)))) (bn (o44 P) (bn (o220 P) (bl (o356 P)) (bl (o489 P))) (bn (o288 P) (bl (o43 P)) (bl (o555 P)))))) (bn (o43 P) (bn (o79 P) (bn (o114 P) (bn (o180 P) (bn (o312 P) (bl (o579 P)) bz) (bl (o444 P))) (bn (o248 P) (bl (o380 P)) (bl (o60 P)))) (bn (o43 P) (bn (o212 P) (bl (o348 P)) (bl (o481 P))) (bn (o280 P) (bl (o412 P)) (bl (o547 P))))) (bn (o43 P) (bn (o43 P) (bn (o44 P) (bl (o43 P)) (bl (o465 P))) (bn (o264 P) (bl (o43 P)) (bl (o43 P)))) (bn (o164 P) (bn (o43 P) (bl (o43 P)) (bl (o497 P))) (bn (o43 P) (bl (o428 P)) (bl (o563 P))))))) (bn (o46 P) (bn (o59 P) (bn (o43 P) (bn (o110 P) (bn (o176 P) (bn (o308 P) (bl (o43 P)) bz) (bl (o440 P))) (bn (o244 P) (bl (o44 P)) (bl (o509 P)))) (bn (o44 P) (bn (o44 P) (bl (o43 P)) (bl (o477 P))) (bn (o276 P) (bl (o408 P)) (bl (o44 P))))) (bn (o43 P) (bn (o128 P) (bn (o192 P) (bl (o43 P)) (bl (o458 P))) (bn (o43 P) (bl (o43 P)) (bl (o527 P)))) (bn (o160 P) (bn (o224 P) (bl (o360 P)) (bl (o493 P))) (bn (o292 P) (bl (o43 P)) (bl (o559 P)))))) (bn (o67 P) (bn (o83 P) (bn (o118 P) (bn (o43 P) (bn (o320 P) (bl (o583 P)) bz) (bl (o448 P))) (bn (o252 P) (bl (o384 P)) (bl (o519 P)))) (bn (o152 P) (bn (o216 P) (bl (o352 P)) (bl (o485 P))) (bn (o284 P) (bl (o416 P)) (bl (o551 P))))) (bn (o102 P) (bn (o43 P) (bn (o43 P) (bl (o336 P)) (bl (o469 P))) (bn (o44 P) (bl (o400 P)) (bl (o43 P)))) (bn (o44 P) (bn (o236 P) (bl (o43 P)) (bl (o501 P))) (bn (o43 P) (bl (o44 P)) (bl (o567 P)))))))))
noncomputable def tree640 (P : Params) : BT := bn (boot_o_0 P) (bn (boot_o_1 P) (bn (o589 P) (bn (boot_o_7 P) (bn (o43 P) (bn (o68 P) (bn (o43 P) (bn (o169 P) (bn (o44 P) (bl (o43 P)) bz) (bl (o433 P))) (bn (o237 P) (bn (o44 P) (bl (o43 P)) bz) (bl (o502 P)))) (bn (o44 P) (bn (o44 P) (bn (o337 P) (bl (o602 P)) bz) (bl (o470 P))) (bn (o269 P) (bl (o401 P)) (bl (o44 P))))) (bn (o90 P) (bn (o119 P) (bn (o185 P) (bn (o43 P) (bl (o584 P)) bz) (bl (o449 P))) (bn (o43 P) (bl (o43 P)) (bl (o520 P)))) (bn (o153 P) (bn (o43 P) (bn (o353 P) (bl (o43 P)) bz) (bl (o470 P))) (bn (o285 P) (bl (o43 P)) (bl (o43 P)))))) (bn (o60 P) (bn (o44 P) (bn (o43 P) (bn (o43 P) (bn (o309 P) (bl (o44 P)) bz) (bl (o441 P))) (bn (o245 P) (bl (o377 P)) (bl (o510 P)))) (bn (o145 P) (bn (o209 P) (bn (o44 P) (bl (o610 P)) bz) (bl (o470 P))) (bn (o43 P) (bl (o409 P)) (bl (o544 P))))) (bn (o44 P) (bn (o43 P) (bn (o193 P) (bn (o329 P) (bl (o43 P)) bz) (bl (o462 P))) (bn (o44 P) (bl (o393 P)) (bl (o43 P)))) (bn (o161 P) (bn (o225 P) (bn (o43 P) (bl (o626 P)) bz) (bl (o470 P))) (bn (o43 P) (bl (o44 P)) (bl (o560 P))))))) (bn (o43 P) (bn (o56 P) (bn (o72 P) (bn (o107 P) (bn (o173 P) (bn (o305 P) (bl (o572 P)) bz) (bl (o44 P))) (bn (o241 P) (bn (o373 P) (bl (o638 P)) bz) (bl (o506 P)))) (bn (o141 P) (bn (o205 P) (bn (o341 P) (bl (o606 P)) bz) (bl (o43 P))) (bn (o273 P) (bl (o405 P)) (bl (o540 P))))) (bn (o91 P) (bn (o43 P) (bn (o44 P) (bn (o43 P) (bl (o588 P)) bz) (bl (o43 P))) (bn (o257 P) (bl (o43 P)) (bl (o43 P)))) (bn (o157 P) (bn (o221 P) (bn (o43 P) (bl (o43 P)) bz) (bl (o43 P))) (bn (o43 P) (bl (o421 P)) (bl (o43 P)))))) (bn (o64 P) (bn (o80 P) (bn (o43 P) (bn (o43 P) (bn (o313 P) (bl (o580 P)) bz) (bl (o461 P))) (bn (o43 P) (bl (o381 P)) (bl (o516 P)))) (bn (o44 P) (bn (o213 P) (bn (o43 P) (bl (o614 P)) bz) (bl (o43 P))) (bn (o43 P) (bl (o43 P)) (bl (o548 P))))) (bn (o99 P) (bn (o133 P) (bn (o197 P) (bn (o44 P) (bl (o43 P)) bz) (bl (o43 P))) (bn (o265 P) (bl (o44 P)) (bl (o532 P)))) (bn (o165 P) (bn (o60 P) (bn (o365 P) (bl (o44 P)) bz) (bl (o43 P))) (bn (o297 P) (bl (o429 P)) (bl (o43 P)))))))) (bn (boot_o_5 P) (bn (boot_o_9 P) (bn (o54 P) (bn (o70 P) (bn (o105 P) (bn (o171 P) (bn (o43 P) (bl (o570 P)) bz) (bl (o435 P))) (bn (o43 P) (bn (o43 P) (bl (o636 P)) bz) (bl (o504 P)))) (bn (o43 P) (bn (o43 P) (bn (o43 P) (bl (o44 P)) bz) (bl (o44 P))) (bn (o271 P) (bl (o43 P)) (bl (o43 P))))) (bn (o86 P) (bn (o60 P) (bn (o187 P) (bn (o323 P) (bl (o586 P)) bz) (bl (o44 P))) (bn (o255 P) (bl (o387 P)) (bl (o44 P)))) (bn (o43 P) (bn (o219 P) (bn (o44 P) (bl (o620 P)) bz) (bl (o44 P))) (bn (o44 P) (bl (o419 P)) (bl (o554 P)))))) (bn (o62 P) (bn (o43 P) (bn (o113 P) (bn (o179 P) (bn (o311 P) (bl (o43 P)) bz) (bl (o443 P))) (bn (o44 P) (bl (o379 P)) (bl (o43 P)))) (bn (o147 P) (bn (o211 P) (bn (o347 P) (bl (o612 P)) bz) (bl (o44 P))) (bn (o279 P) (bl (o44 P)) (bl (o546 P))))) (bn (o97 P) (bn (o131 P) (bn (o43 P) (bn (o331 P) (bl (o596 P)) bz) (bl (o464 P))) (bn (o43 P) (bl (o395 P)) (bl (o530 P)))) (bn (o44 P) (bn (o227 P) (bn (o363 P) (bl (o628 P)) bz) (bl (o44 P))) (bn (o295 P) (bl (o43 P)) (bl (o44 P))))))) (bn (o45 P) (bn (o58 P) (bn (o74 P) (bn (o44 P) (bn (o44 P) (bn (o307 P) (bl (o574 P)) bz) (bl (o43 P))) (bn (o243 P) (bn (o43 P) (bl (o640 P)) bz) (bl (o44 P)))) (bn (o43 P) (bn (o43 P) (bn (o343 P) (bl (o43 P)) bz) (bl (o476 P))) (bn (o44 P) (bl (o407 P)) (bl (o43 P))))) (bn (o93 P) (bn (o127 P) (bn (o43 P) (bn (o327 P) (bl (o44 P)) bz) (bl (o457 P))) (bn (o259 P) (bl (o391 P)) (bl (o526 P)))) (bn (o159 P) (bn (o223 P) (bn (o359 P) (bl (o624 P)) bz) (bl (o492 P))) (bn (o291 P) (bl (o423 P)) (bl (o558 P)))))) (bn (o66 P) (bn (o82 P) (bn (o117 P) (bn (o183 P) (bn (o60 P) (bl (o582 P)) bz) (bl (o447 P))) (bn (o251 P) (bl (o44 P)) (bl (o518 P)))) (bn (o43 P) (bn (o44 P) (bn (o351 P) (bl (o44 P)) bz) (bl (o484 P))) (bn (o283 P) (bl (o415 P)) (bl (o44 P))))) (bn (o101 P) (bn (o135 P) (bn (o199 P) (bn (o43 P) (bl (o600 P)) bz) (bl (o468 P))) (bn (o43 P) (bl (o43 P)) (bl (o534 P)))) (bn (o43 P) (bn (o43 P) (bn (o367 P) (bl (o632 P)) bz) (bl (o500 P))) (bn (o299 P) (bl (o43 P)) (bl (o566 P))))))))) (bn (o49 P) (bn (boot_o_4 P) (bn (boot_o_8 P) (bn (o44 P) (bn (o44 P) (bn (o44 P) (bn (o43 P) (bn (o302 P) (bl (o44 P)) bz) (bl (o434 P))) (bn (o238 P) (bn (o370 P) (bl (o44 P)) bz) (bl (o503 P)))) (bn (o138 P) (bn (o202 P) (bn (o338 P) (bl (o43 P)) bz) (bl (o471 P))) (bn (o43 P) (bl (o402 P)) (bl (o537 P))))) (bn (o85 P) (bn (o43 P) (bn (o186 P) (bn (o322 P) (bl (o585 P)) bz) (bl (o43 P))) (bn (o44 P) (bl (o386 P)) (bl (o43 P)))) (bn (o154 P) (bn (o218 P) (bn (o43 P) (bl (o619 P)) bz) (bl (o487 P))) (bn (o43 P) (bl (o44 P)) (bl (o553 P)))))) (bn (o61 P) (bn (o77 P) (bn (o112 P) (bn (o178 P) (bn (o310 P) (bl (o577 P)) bz) (bl (o442 P))) (bn (o43 P) (bl (o43 P)) (bl (o511 P)))) (bn (o146 P) (bn (o43 P) (bn (o346 P) (bl (o43 P)) bz) (bl (o479 P))) (bn (o278 P) (bl (o43 P)) (bl (o43 P))))) (bn (o96 P) (bn (o44 P) (bn (o194 P) (bn (o330 P) (bl (o595 P)) bz) (bl (o60 P))) (bn (o262 P) (bl (o394 P)) (bl (o44 P)))) (bn (o43 P) (bn (o226 P) (bn (o44 P) (bl (o627 P)) bz) (bl (o495 P))) (bn (o44 P) (bl (o426 P)) (bl (o43 P))))))) (bn (o590 P) (bn (o57 P) (bn (o73 P) (bn (o43 P) (bn (o43 P) (bn (o306 P) (bl (o573 P)) bz) (bl (o438 P))) (bn (o43 P) (bn (o374 P) (bl (o639 P)) bz) (bl (o43 P)))) (bn (o142 P) (bn (o206 P) (bn (o342 P) (bl (o607 P)) bz) (bl (o475 P))) (bn (o43 P) (bl (o43 P)) (bl (o541 P))))) (bn (o60 P) (bn (o126 P) (bn (o190 P) (bn (o44 P) (bl (o43 P)) bz) (bl (o456 P))) (bn (o258 P) (bl (o44 P)) (bl (o525 P)))) (bn (o43 P) (bn (o222 P) (bn (o358 P) (bl (o44 P)) bz) (bl (o491 P))) (bn (o290 P) (bl (o422 P)) (bl (o44 P)))))) (bn (o65 P) (bn (o81 P) (bn (o44 P) (bn (o44 P) (bn (o43 P) (bl (o581 P)) bz) (bl (o446 P))) (bn (o250 P) (bl (o43 P)) (bl (o43 P)))) (bn (o150 P) (bn (o43 P) (bn (o44 P) (bl (o43 P)) bz) (bl (o483 P))) (bn (o44 P) (bl (o414 P)) (bl (o43 P))))) (bn (o100 P) (bn (o134 P) (bn (o198 P) (bn (o334 P) (bl (o44 P)) bz) (bl (o467 P))) (bn (o266 P) (bl (o398 P)) (bl (o533 P)))) (bn (o166 P) (bn (o234 P) (bn (o366 P) (bl (o631 P)) bz) (bl (o499 P))) (bn (o298 P) (bl (o430 P)) (bl (o565 P)))))))) (bn (boot_o_6 P) (bn (boot_o_10 P) (bn (o43 P) (bn (o43 P) (bn (o106 P) (bn (o172 P) (bn (o304 P) (bl (o43 P)) bz) (bl (o43 P))) (bn (o44 P) (bn (o372 P) (bl (o43 P)) bz) (bl (o505 P)))) (bn (o140 P) (bn (o204 P) (bn (o44 P) (bl (o605 P)) bz) (bl (o473 P))) (bn (o272 P) (bl (o44 P)) (bl (o539 P))))) (bn (o87 P) (bn (o124 P) (bn (o43 P) (bn (o324 P) (bl (o587 P)) bz) (bl (o454 P))) (bn (o43 P) (bl (o388 P)) (bl (o523 P)))) (bn (o44 P) (bn (o220 P) (bn (o356 P) (bl (o621 P)) bz) (bl (o489 P))) (bn (o288 P) (bl (o43 P)) (bl (o555 P)))))) (bn (o43 P) (bn (o79 P) (bn (o114 P) (bn (o180 P) (bn (o312 P) (bl (o579 P)) bz) (bl (o444 P))) (bn (o248 P) (bl (o380 P)) (bl (o60 P)))) (bn (o43 P) (bn (o212 P) (bn (o348 P) (bl (o613 P)) bz) (bl (o481 P))) (bn (o280 P) (bl (o412 P)) (bl (o547 P))))) (bn (o43 P) (bn (o43 P) (bn (o44 P) (bn (o43 P) (bl (o597 P)) bz) (bl (o465 P))) (bn (o264 P) (bl (o43 P)) (bl (o43 P)))) (bn (o164 P) (bn (o43 P) (bn (o43 P) (bl (o43 P)) bz) (bl (o497 P))) (bn (o43 P) (bl (o428 P)) (bl (o563 P))))))) (bn (o46 P) (bn (o59 P) (bn (o43 P) (bn (o110 P) (bn (o176 P) (bn (o308 P) (bl (o43 P)) bz) (bl (o440 P))) (bn (o244 P) (bl (o44 P)) (bl (o509 P)))) (bn (o44 P) (bn (o44 P) (bn (o43 P) (bl (o44 P)) bz) (bl (o477 P))) (bn (o276 P) (bl (o408 P)) (bl (o44 P))))) (bn (o43 P) (bn (o128 P) (bn (o192 P) (bn (o43 P) (bl (o593 P)) bz) (bl (o458 P))) (bn (o43 P) (bl (o43 P)) (bl (o527 P)))) (bn (o160 P) (bn (o224 P) (bn (o360 P) (bl (o43 P)) bz) (bl (o493 P))) (bn (o292 P) (bl (o43 P)) (bl (o559 P)))))) (bn (o67 P) (bn (o83 P) (bn (o118 P) (bn (o43 P) (bn (o320 P) (bl (o583 P)) bz) (bl (o448 P))) (bn (o252 P) (bl (o384 P)) (bl (o519 P)))) (bn (o152 P) (bn (o216 P) (bn (o352 P) (bl (o617 P)) bz) (bl (o485 P))) (bn (o284 P) (bl (o416 P)) (bl (o551 P))))) (bn (o102 P) (bn (o43 P) (bn (o43 P) (bn (o336 P) (bl (o601 P)) bz) (bl (o469 P))) (bn (o44 P) (bl (o400 P)) (bl (o43 P)))) (bn (o44 P) (bn (o236 P) (bn (o43 P) (bl (o633 P)) bz) (bl (o501 P))) (bn (o43 P) (bl (o44 P)) (bl (o567 P)))))))))
noncomputable def heap641 (P : Params) : Heap := { objs := { toList := [boot_o_0 P, boot_o_1 P, o49 P, o589 P, boot_o_4 P, boot_o_5 P, boot_o_6 P, boot_o_7 P, boot_o_8 P, boot_o_9 P, boot_o_10 P, o43 P, o590 P, o45 P, o46 P, o43 P, o44 P, o54 P, o43 P, o56 P, o57 P, o58 P, o59 P, o60 P, o61 P, o62 P, o43 P, o64 P, o65 P, o66 P, o67 P, o68 P, o44 P, o70 P, o43 P, o72 P, o73 P, o74 P, o43 P, o44 P, o77 P, o43 P, o79 P, o80 P, o81 P, o82 P, o83 P, o90 P, o85 P, o86 P, o87 P, o91 P, o60 P, o93 P, o43 P, o44 P, o96 P, o97 P, o43 P, o99 P, o100 P, o101 P, o102 P, o43 P, o44 P, o105 P, o106 P, o107 P, o43 P, o44 P, o110 P, o43 P, o112 P, o113 P, o114 P, o43 P, o44 P, o117 P, o118 P, o119 P, o43 P, o60 P, o124 P, o43 P, o126 P, o127 P, o128 P, o43 P, o44 P, o131 P, o43 P, o133 P, o134 P, o135 P, o43 P, o44 P, o138 P, o43 P, o140 P, o141 P, o142 P, o43 P, o44 P, o145 P, o146 P, o147 P, o43 P, o44 P, o150 P, o43 P, o152 P, o153 P, o154 P, o43 P, o44 P, o157 P, o43 P, o159 P, o160 P, o161 P, o43 P, o44 P, o164 P, o165 P, o166 P, o43 P, o44 P, o169 P, o43 P, o171 P, o172 P, o173 P, o43 P, o44 P, o176 P, o43 P, o178 P, o179 P, o180 P, o43 P, o44 P, o183 P, o43 P, o185 P, o186 P, o187 P, o43 P, o44 P, o190 P, o43 P, o192 P, o193 P, o194 P, o43 P, o44 P, o197 P, o198 P, o199 P, o43 P, o44 P, o202 P, o43 P, o204 P, o205 P, o206 P, o43 P, o44 P, o209 P, o43 P, o211 P, o212 P, o213 P, o43 P, o44 P, o216 P, o43 P, o218 P, o219 P, o220 P, o221 P, o222 P, o223 P, o224 P, o225 P, o226 P, o227 P, o43 P, o60 P, o234 P, o43 P, o236 P, o237 P, o238 P, o43 P, o44 P, o241 P, o43 P, o243 P, o244 P, o245 P, o43 P, o44 P, o248 P, o43 P, o250 P, o251 P, o252 P, o43 P, o44 P, o255 P, o43 P, o257 P, o258 P, o259 P, o43 P, o44 P, o262 P, o43 P, o264 P, o265 P, o266 P, o43 P, o44 P, o269 P, o43 P, o271 P, o272 P, o273 P, o43 P, o44 P, o276 P, o43 P, o278 P, o279 P, o280 P, o43 P, o44 P, o283 P, o284 P, o285 P, o43 P, o44 P, o288 P, o43 P, o290 P, o291 P, o292 P, o43 P, o44 P, o295 P, o43 P, o297 P, o298 P, o299 P, o43 P, o44 P, o302 P, o43 P, o304 P, o305 P, o306 P, o307 P, o308 P, o309 P, o310 P, o311 P, o312 P, o313 P, o43 P, o60 P, o320 P, o43 P, o322 P, o323 P, o324 P, o43 P, o44 P, o327 P, o43 P, o329 P, o330 P, o331 P, o43 P, o44 P, o334 P, o43 P, o336 P, o337 P, o338 P, o43 P, o44 P, o341 P, o342 P, o343 P, o43 P, o44 P, o346 P, o347 P, o348 P, o43 P, o44 P, o351 P, o352 P, o353 P, o43 P, o44 P, o356 P, o43 P, o358 P, o359 P, o360 P, o43 P, o44 P, o363 P, o43 P, o365 P, o366 P, o367 P, o43 P, o44 P, o370 P, o43 P, o372 P, o373 P, o374 P, o43 P, o44 P, o377 P, o43 P, o379 P, o380 P, o381 P, o43 P, o44 P, o384 P, o43 P, o386 P, o387 P, o388 P, o43 P, o44 P, o391 P, o43 P, o393 P, o394 P, o395 P, o43 P, o44 P, o398 P, o43 P, o400 P, o401 P, o402 P, o43 P, o44 P, o405 P, o43 P, o407 P, o408 P, o409 P, o43 P, o44 P, o412 P, o43 P, o414 P, o415 P, o416 P, o43 P, o44 P, o419 P, o43 P, o421 P, o422 P, o423 P, o43 P, o44 P, o426 P, o43 P, o428 P, o429 P, o430 P, o43 P, o44 P, o433 P, o434 P, o435 P, o43 P, o44 P, o438 P, o43 P, o440 P, o441 P, o442 P, o443 P, o444 P, o461 P, o446 P, o447 P, o448 P, o449 P, o43 P, o44 P, o454 P, o43 P, o456 P, o457 P, o458 P, o462 P, o60 P, o464 P, o465 P, o43 P, o467 P, o468 P, o469 P, o470 P, o471 P, o44 P, o473 P, o43 P, o475 P, o476 P, o477 P, o470 P, o479 P, o44 P, o481 P, o43 P, o483 P, o484 P, o485 P, o470 P, o487 P, o44 P, o489 P, o43 P, o491 P, o492 P, o493 P, o470 P, o495 P, o44 P, o497 P, o43 P, o499 P, o500 P, o501 P, o502 P, o503 P, o504 P, o505 P, o506 P, o43 P, o44 P, o509 P, o510 P, o511 P, o43 P, o60 P, o516 P, o43 P, o518 P, o519 P, o520 P, o43 P, o44 P, o523 P, o43 P, o525 P, o526 P, o527 P, o43 P, o44 P, o530 P, o43 P, o532 P, o533 P, o534 P, o43 P, o44 P, o537 P, o43 P, o539 P, o540 P, o541 P, o43 P, o44 P, o544 P, o43 P, o546 P, o547 P, o548 P, o43 P, o44 P, o551 P, o43 P, o553 P, o554 P, o555 P, o43 P, o44 P, o558 P, o559 P, o560 P, o43 P, o44 P, o563 P, o43 P, o565 P, o566 P, o567 P, o43 P, o44 P, o570 P, o43 P, o572 P, o573 P, o574 P, o43 P, o44 P, o577 P, o43 P, o579 P, o580 P, o581 P, o582 P, o583 P, o584 P, o585 P, o586 P, o587 P, o588 P, o43 P, o44 P, o593 P, o43 P, o595 P, o596 P, o597 P, o43 P, o44 P, o600 P, o601 P, o602 P, o43 P, o44 P, o605 P, o606 P, o607 P, o43 P, o44 P, o610 P, o43 P, o612 P, o613 P, o614 P, o43 P, o44 P, o617 P, o43 P, o619 P, o620 P, o621 P, o43 P, o44 P, o624 P, o43 P, o626 P, o627 P, o628 P, o43 P, o44 P, o631 P, o632 P, o633 P, o43 P, o44 P, o636 P, o43 P, o638 P, o639 P, o640 P] } }
noncomputable def sts49 : List Stmt := (BW.drop 0).take 3
noncomputable def sts88 : List Stmt := (BW.drop 3).take 5
noncomputable def sts120 : List Stmt := (BW.drop 8).take 1
noncomputable def sts228 : List Stmt := (BW.drop 9).take 1
noncomputable def sts230 : List Stmt := (BW.drop 10).take 1
noncomputable def sts314 : List Stmt := (BW.drop 11).take 1
noncomputable def sts316 : List Stmt := (BW.drop 12).take 1
noncomputable def sts450 : List Stmt := (BW.drop 13).take 2
noncomputable def sts459 : List Stmt := (BW.drop 15).take 2
noncomputable def sts512 : List Stmt := (BW.drop 17).take 1
noncomputable def sts589 : List Stmt := (BW.drop 18).take 9
noncomputable abbrev P0 : Pos := { line := 0, col := 0, endLine := 0, endCol := 0 }
noncomputable abbrev CB : Code := .body BW env41
noncomputable abbrev ST (t : Params → BT) (n k : Nat) (w : World) (os : OsState) : SharedT := { tree := t w.params, n := n, life := {}, gens := { toList := [] }, drawn := {}, toks := k, os := os }
noncomputable abbrev S0 (w : World) (os : OsState) : Shared := { heap := boot_heap w.params, gens := { toList := [] }, drawn := boot_drawn, toks := boot_toks, os := os }
noncomputable abbrev Sa (w : World) (os : OsState) : Shared := { heap := heap46 w.params, gens := { toList := [] }, drawn := {}, toks := 187, os := os }
noncomputable abbrev Sf (w : World) (os : OsState) : Shared := { heap := heap641 w.params, gens := { toList := [] }, drawn := {}, toks := 933, os := os }
noncomputable abbrev AN : Option Value := some (.ref 6)
theorem pre (w : World) : (fun os => topGo treeTable PG w 11 AN 12 (S0 w os) (topStub PG)) = fun os => some (Sa w os, { cur := denote treeTable CB, code := CB, pos := P0, stack := [topFrame P0] }) := by
  rewrite [Fast.te15667345088766844465, Fast.te14364793385576792824, Fast.te11892475500146522536]; kernel_rfl
theorem block (w : World) : (fun os => segRun treeTable PG w 11 AN 1 1 (Sa w os) (blockOf BW env41 CB P0 [topFrame P0])) = fun os => some (.next, (ST tree47 15 187 w os).abs, CB, P0) := by
  rewrite [Fast.te14374325043358763698, Fast.te14364793385576792824]; kernel_rfl
theorem piece0 (w : World) : (fun os => segRunT treeTable PG w 11 AN 1 314 (ST tree47 15 187 w os) (piecesOf sts49 env41 CB { line := 0, col := 0, endLine := 0, endCol := 0 } [topFrame P0])) = fun os => some (.next, ST tree87 51 234 w os, CB, { line := 5, col := 0, endLine := 12, endCol := 24 }) := by
  rewrite [Fast.te10110043849684766642, Fast.te14364793385576792824]; kernel_rfl
theorem piece1 (w : World) : (fun os => segRunT treeTable PG w 11 AN 1 304 (ST tree87 51 234 w os) (piecesOf sts88 env41 CB { line := 5, col := 0, endLine := 12, endCol := 24 } [topFrame P0])) = fun os => some (.next, ST tree119 80 271 w os, CB, { line := 20, col := 0, endLine := 24, endCol := 16 }) := by
  rewrite [Fast.te10110043849684766642, Fast.te14364793385576792824]; kernel_rfl
theorem piece2 (w : World) : (fun os => segRunT treeTable PG w 11 AN 1 631 (ST tree119 80 271 w os) (piecesOf sts120 env41 CB { line := 20, col := 0, endLine := 24, endCol := 16 } [topFrame P0])) = fun os => some (.next, ST tree227 186 402 w os, CB, { line := 25, col := 0, endLine := 93, endCol := 56 }) := by
  rewrite [Fast.te10110043849684766642, Fast.te14364793385576792824]; kernel_rfl
theorem piece3 (w : World) : (fun os => segRunT treeTable PG w 11 AN 1 10 (ST tree227 186 402 w os) (piecesOf sts228 env41 CB { line := 25, col := 0, endLine := 93, endCol := 56 } [topFrame P0])) = fun os => some (.next, ST tree228 186 404 w os, CB, { line := 94, col := 0, endLine := 94, endCol := 8 }) := by
  rewrite [Fast.te10110043849684766642, Fast.te14364793385576792824]; kernel_rfl
theorem piece4 (w : World) : (fun os => segRunT treeTable PG w 11 AN 1 510 (ST tree228 186 404 w os) (piecesOf sts230 env41 CB { line := 94, col := 0, endLine := 94, endCol := 8 } [topFrame P0])) = fun os => some (.next, ST tree313 268 506 w os, CB, { line := 95, col := 0, endLine := 140, endCol := 16 }) := by
  rewrite [Fast.te10110043849684766642, Fast.te14364793385576792824]; kernel_rfl
theorem piece5 (w : World) : (fun os => segRunT treeTable PG w 11 AN 1 10 (ST tree313 268 506 w os) (piecesOf sts314 env41 CB { line := 95, col := 0, endLine := 140, endCol := 16 } [topFrame P0])) = fun os => some (.next, ST tree314 268 508 w os, CB, { line := 141, col := 0, endLine := 141, endCol := 8 }) := by
  rewrite [Fast.te10110043849684766642, Fast.te14364793385576792824]; kernel_rfl
theorem piece6 (w : World) : (fun os => segRunT treeTable PG w 11 AN 1 760 (ST tree314 268 508 w os) (piecesOf sts316 env41 CB { line := 141, col := 0, endLine := 141, endCol := 8 } [topFrame P0])) = fun os => some (.next, ST tree449 400 674 w os, CB, { line := 142, col := 0, endLine := 222, endCol := 17 }) := by
  rewrite [Fast.te10110043849684766642, Fast.te14364793385576792824]; kernel_rfl
theorem piece7 (w : World) : (fun os => segRunT treeTable PG w 11 AN 1 42 (ST tree449 400 674 w os) (piecesOf sts450 env41 CB { line := 142, col := 0, endLine := 222, endCol := 17 } [topFrame P0])) = fun os => some (.next, ST tree458 407 686 w os, CB, { line := 224, col := 0, endLine := 229, endCol := 52 }) := by
  rewrite [Fast.te10110043849684766642, Fast.te14364793385576792824]; kernel_rfl
theorem piece8 (w : World) : (fun os => segRunT treeTable PG w 11 AN 1 393 (ST tree458 407 686 w os) (piecesOf sts459 env41 CB { line := 224, col := 0, endLine := 229, endCol := 52 } [topFrame P0])) = fun os => some (.next, ST tree511 457 749 w os, CB, { line := 254, col := 0, endLine := 261, endCol := 86 }) := by
  rewrite [Fast.te10110043849684766642, Fast.te14364793385576792824]; kernel_rfl
theorem piece9 (w : World) : (fun os => segRunT treeTable PG w 11 AN 1 479 (ST tree511 457 749 w os) (piecesOf sts512 env41 CB { line := 254, col := 0, endLine := 261, endCol := 86 } [topFrame P0])) = fun os => some (.next, ST tree588 532 844 w os, CB, { line := 262, col := 0, endLine := 301, endCol := 74 }) := by
  rewrite [Fast.te10110043849684766642, Fast.te14364793385576792824]; kernel_rfl
theorem piece10 (w : World) : (fun os => segRunT treeTable PG w 11 AN 1 267 (ST tree588 532 844 w os) (piecesOf sts589 env41 CB { line := 262, col := 0, endLine := 301, endCol := 74 } [topFrame P0])) = fun os => some (.next, ST tree640 582 933 w os, CB, { line := 352, col := 0, endLine := 377, endCol := 77 }) := by
  rewrite [Fast.te10110043849684766642, Fast.te14364793385576792824]; kernel_rfl
theorem fin (w : World) : (fun os => topRun treeTable PG w 11 AN 2 (ST tree640 582 933 w os).abs { cur := doneF .next, code := CB, pos := { line := 352, col := 0, endLine := 377, endCol := 77 }, stack := [topFrame P0] }) = fun os => some (Sf w os) := by
  rewrite [Fast.te14082659384304107361, Fast.te14364793385576792824]; kernel_rfl
theorem bw_eq : BW = sts49 ++ (sts88 ++ (sts120 ++ (sts228 ++ (sts230 ++ (sts314 ++ (sts316 ++ (sts450 ++ (sts459 ++ (sts512 ++ (sts589 ++ [])))))))))) := by kernel_rfl
theorem run (w : World) (os : OsState) : topRun treeTable PG w 11 AN (12 + (1 + (314 + (304 + (631 + (10 + (510 + (10 + (760 + (42 + (393 + (479 + (267 + 2))))))))))))) (S0 w os) (topStub PG) = some (Sf w os) := by
  refine go_top (congrFun (pre w) os) (piece_block (congrFun (block w) os) ?_)
  have h : topRun treeTable PG w 11 AN (314 + (304 + (631 + (10 + (510 + (10 + (760 + (42 + (393 + (479 + (267 + 2))))))))))) (ST tree47 15 187 w os).abs (restOf (sts49 ++ (sts88 ++ (sts120 ++ (sts228 ++ (sts230 ++ (sts314 ++ (sts316 ++ (sts450 ++ (sts459 ++ (sts512 ++ (sts589 ++ []))))))))))) env41 CB P0 [topFrame P0]) = some (Sf w os) := piece_app (segRun_of (congrFun (piece0 w) os)) (piece_app (segRun_of (congrFun (piece1 w) os)) (piece_app (segRun_of (congrFun (piece2 w) os)) (piece_app (segRun_of (congrFun (piece3 w) os)) (piece_app (segRun_of (congrFun (piece4 w) os)) (piece_app (segRun_of (congrFun (piece5 w) os)) (piece_app (segRun_of (congrFun (piece6 w) os)) (piece_app (segRun_of (congrFun (piece7 w) os)) (piece_app (segRun_of (congrFun (piece8 w) os)) (piece_app (segRun_of (congrFun (piece9 w) os)) (piece_app (segRun_of (congrFun (piece10 w) os)) (piece_nil (congrFun (fin w) os))))))))))))
  rw [← bw_eq] at h
  exact h
end
section
noncomputable abbrev RW' : RowW := PySem.Challenge.rw_pq0074_01.row.toRowW
noncomputable abbrev XT (s : Shared) : Bool := xlAt VV [] s && recOk (RowW.records RW') s
noncomputable abbrev HO : Hook := kHook KK KA (fun _ => by kernel_rfl)
theorem lk0 (w : World) : (fun os => (staticsOk (importedModules PG.main.body) (boot_heap w.params) (heap641 w.params) && namesBound PG (heap641 w.params) && gensDone (Sf w os) && laidKept (boot_heap w.params) (heap641 w.params))) = fun _ => true := by
  rewrite [Fast.te5923862056798008813]; kernel_rfl
theorem lk1 (w : World) : (fun os => seen ((recsOf VV).map (·.name)) (ownsOf VV) [] { Sf w os with gens := #[] }) = fun _ => expectedOf VV := by
  rewrite [Fast.te5160383126252970620, PySem.W.R.mapR_eq, Fast.te3399658132070893891, Fast.te5991557255702980513]; kernel_rfl
theorem lk2 (w : World) : (fun os => (Sf w os).heap.bltView) = fun _ => bltViewBooted := by
  kernel_rfl
theorem lk3 (w : World) : (fun os => ((Sf w os).heap.keysOk (looseW VV []) ((recsOf VV).map (·.name)) ((litsOf VV).map (·.1)) ((clssOf VV (looseW VV [])).map (·.name)) && (Sf w os).heap.accountedOkI (importedModules PG.main.body) && (Sf w os).heap.isNs mainGlobals && (Sf w os).heap.isNs builtinsNs && tablesOk VV (Sf w os).heap && XT (Sf w os) && (if true then (Sf w os).gens.size == 0 else !leftWithCleanup (Sf w os).gens))) = fun _ => true := by
  rewrite [Fast.te10880121769531294198, Fast.te821141287760084731, PySem.W.R.mapR_eq, Fast.te3399658132070893891, Fast.te7409074990110511671, Fast.te13664370479719496447, Fast.te14722251495701143533, Fast.te5923862056798008813, Fast.te10994771534591457954]; kernel_rfl
theorem lk4 (w : World) : (fun os => tabsOk VV (Sf w os)) = fun _ => true := by
  rewrite [Fast.te479339242167458305]; kernel_rfl
theorem lk5 (w : World) : (fun os => pinSeenD VV (drecsOf VV) (Sf w os)) = fun _ => pinGoodD (drecsOf VV) := by
  rewrite [Fast.te16090120013241838585, Fast.te3247288618530077131]; kernel_rfl
theorem lk6 (w : World) : (fun os => plainSeenE VV (looseW VV []) (Sf w os)) = fun _ => plainGoodE VV (looseW VV []) := by
  rewrite [Fast.te2386780881361962483, Fast.te821141287760084731]; kernel_rfl
theorem lk7 (w : World) : (fun os => plainSeenD VV [] (Sf w os)) = fun _ => plainGoodD VV [] := by
  rewrite [Fast.te11698064438423848299]; kernel_rfl
theorem lk8 (w : World) : (fun os => wideSeen VV (Sf w os)) = fun _ => wideGood VV := by
  rewrite [Fast.te7317090234206586261]; kernel_rfl
theorem lk9 (w : World) : (fun os => clsSeenW VV [] (Sf w os)) = fun _ => clsGoodW VV [] := by
  rewrite [Fast.te7369524293546568484]; kernel_rfl
theorem lk10 (w : World) : (fun os => HO.obs (Sf w os)) = fun _ => HO.val w := by
  kernel_rfl
theorem looks (w : World) : (fun os => ((staticsOk (importedModules PG.main.body) (boot_heap w.params) (heap641 w.params) && namesBound PG (heap641 w.params) && gensDone (Sf w os) && laidKept (boot_heap w.params) (heap641 w.params)), openSeen VV [] (importedModules PG.main.body) XT true (Sf w os), HO.obs (Sf w os))) = fun _ => (true, openGood VV [], HO.val w) :=
  funext fun os => looks_pair (congrFun (lk0 w) os) (looks_pair (looks_pair (congrFun (lk1 w) os) (looks_pair (congrFun (lk2 w) os) (looks_pair (congrFun (lk3 w) os) (looks_pair (congrFun (lk4 w) os) (looks_pair (congrFun (lk5 w) os) (looks_pair (congrFun (lk6 w) os)
    (looks_pair (congrFun (lk7 w) os) (looks_pair (congrFun (lk8 w) os) (congrFun (lk9 w) os))))))))) (congrFun (lk10 w) os))
theorem size (w : World) : ((boot_heap w.params).isNs mainGlobals && (Array.mk ([] : List GenState)).size == 0, (boot_heap w.params).objs.size, (boot_heap w.params).nsMap mainGlobals "__annotations__") = (true, 11, AN) := by
  rewrite [Fast.te8920871248978507458]; kernel_rfl
theorem op1 : opening PG = plainProg PG.main.scope.names := by kernel_rfl
theorem op2 (s : Shared) : fenceModules? PG s = some s := by kernel_rfl
theorem left : LeftO PG VV [] XT HO.obs HO.val 7544 :=
  LeftO.of_pieces (H₀ := fun P => boot_heap P) (H₁ := heap641) (gs₀ := Array.mk []) (gs₁ := Array.mk []) (d₀ := boot_drawn) (d₁ := {}) (k₀ := boot_toks) (boot_open op1 (by decide) op2) size run (by decide) looks
theorem ws : PySem.Challenge.rw_pq0074_01.wellSaid = true := by rewrite [Fast.te9446332074065402090]; kernel_rfl
end
local macro_rules | `(tactic| omega) => `(tactic| lia)
theorem bc {P : Prop} (h : ¬P → False) : P := Classical.byContradiction h
theorem el2 {A0 A1 P : Prop} (h : A0 ∧ A1) (k : A0 → A1 → P) : P := k h.1 h.2
theorem el3 {A0 A1 A2 P : Prop} (h : A0 ∧ A1 ∧ A2) (k : A0 → A1 → A2 → P) : P := k h.1 h.2.1 h.2.2
theorem el4 {A0 A1 A2 A3 P : Prop} (h : A0 ∧ A1 ∧ A2 ∧ A3) (k : A0 → A1 → A2 → A3 → P) : P := k h.1 h.2.1 h.2.2.1 h.2.2.2
theorem el5 {A0 A1 A2 A3 A4 P : Prop} (h : A0 ∧ A1 ∧ A2 ∧ A3 ∧ A4) (k : A0 → A1 → A2 → A3 → A4 → P) : P := k h.1 h.2.1 h.2.2.1 h.2.2.2.1 h.2.2.2.2
theorem el6 {A0 A1 A2 A3 A4 A5 P : Prop} (h : A0 ∧ A1 ∧ A2 ∧ A3 ∧ A4 ∧ A5) (k : A0 → A1 → A2 → A3 → A4 → A5 → P) : P := k h.1 h.2.1 h.2.2.1 h.2.2.2.1 h.2.2.2.2.1 h.2.2.2.2.2
theorem el7 {A0 A1 A2 A3 A4 A5 A6 P : Prop} (h : A0 ∧ A1 ∧ A2 ∧ A3 ∧ A4 ∧ A5 ∧ A6) (k : A0 → A1 → A2 → A3 → A4 → A5 → A6 → P) : P := k h.1 h.2.1 h.2.2.1 h.2.2.2.1 h.2.2.2.2.1 h.2.2.2.2.2.1 h.2.2.2.2.2.2
theorem el8 {A0 A1 A2 A3 A4 A5 A6 A7 P : Prop} (h : A0 ∧ A1 ∧ A2 ∧ A3 ∧ A4 ∧ A5 ∧ A6 ∧ A7) (k : A0 → A1 → A2 → A3 → A4 → A5 → A6 → A7 → P) : P := k h.1 h.2.1 h.2.2.1 h.2.2.2.1 h.2.2.2.2.1 h.2.2.2.2.2.1 h.2.2.2.2.2.2.1 h.2.2.2.2.2.2.2
theorem el9 {A0 A1 A2 A3 A4 A5 A6 A7 A8 P : Prop} (h : A0 ∧ A1 ∧ A2 ∧ A3 ∧ A4 ∧ A5 ∧ A6 ∧ A7 ∧ A8) (k : A0 → A1 → A2 → A3 → A4 → A5 → A6 → A7 → A8 → P) : P := k h.1 h.2.1 h.2.2.1 h.2.2.2.1 h.2.2.2.2.1 h.2.2.2.2.2.1 h.2.2.2.2.2.2.1 h.2.2.2.2.2.2.2.1 h.2.2.2.2.2.2.2.2
theorem ex1 {α0 : Type} {p : α0 → Prop} {P : Prop} (h : ∃ x0, p x0) (k : ∀ x0, p x0 → P) : P := by
  obtain ⟨x0, h⟩ := h
  exact k x0 h
theorem ex2 {α0  α1 : Type} {p : α0 → α1 → Prop} {P : Prop} (h : ∃ x0 x1, p x0 x1) (k : ∀ x0 x1, p x0 x1 → P) : P := by
  obtain ⟨x0, x1, h⟩ := h
  exact k x0 x1 h
theorem ex3 {α0  α1  α2 : Type} {p : α0 → α1 → α2 → Prop} {P : Prop} (h : ∃ x0 x1 x2, p x0 x1 x2) (k : ∀ x0 x1 x2, p x0 x1 x2 → P) : P := by
  obtain ⟨x0, x1, x2, h⟩ := h
  exact k x0 x1 x2 h
theorem ex4 {α0  α1  α2  α3 : Type} {p : α0 → α1 → α2 → α3 → Prop} {P : Prop} (h : ∃ x0 x1 x2 x3, p x0 x1 x2 x3) (k : ∀ x0 x1 x2 x3, p x0 x1 x2 x3 → P) : P := by
  obtain ⟨x0, x1, x2, x3, h⟩ := h
  exact k x0 x1 x2 x3 h
theorem ex5 {α0  α1  α2  α3  α4 : Type} {p : α0 → α1 → α2 → α3 → α4 → Prop} {P : Prop} (h : ∃ x0 x1 x2 x3 x4, p x0 x1 x2 x3 x4) (k : ∀ x0 x1 x2 x3 x4, p x0 x1 x2 x3 x4 → P) : P := by
  obtain ⟨x0, x1, x2, x3, x4, h⟩ := h
  exact k x0 x1 x2 x3 x4 h
theorem ex6 {α0  α1  α2  α3  α4  α5 : Type} {p : α0 → α1 → α2 → α3 → α4 → α5 → Prop} {P : Prop} (h : ∃ x0 x1 x2 x3 x4 x5, p x0 x1 x2 x3 x4 x5) (k : ∀ x0 x1 x2 x3 x4 x5, p x0 x1 x2 x3 x4 x5 → P) : P := by
  obtain ⟨x0, x1, x2, x3, x4, x5, h⟩ := h
  exact k x0 x1 x2 x3 x4 x5 h
theorem ex7 {α0  α1  α2  α3  α4  α5  α6 : Type} {p : α0 → α1 → α2 → α3 → α4 → α5 → α6 → Prop} {P : Prop} (h : ∃ x0 x1 x2 x3 x4 x5 x6, p x0 x1 x2 x3 x4 x5 x6) (k : ∀ x0 x1 x2 x3 x4 x5 x6, p x0 x1 x2 x3 x4 x5 x6 → P) : P := by
  obtain ⟨x0, x1, x2, x3, x4, x5, x6, h⟩ := h
  exact k x0 x1 x2 x3 x4 x5 x6 h
theorem min_l {a b c : Nat} (h : c < min a b) : c < a := Nat.lt_of_lt_of_le h (Nat.min_le_left _ _)
theorem min_r {a b c : Nat} (h : c < min a b) : c < b := Nat.lt_of_lt_of_le h (Nat.min_le_right _ _)
theorem minZ (a b : Nat) : min (a : Int) (b : Int) = ((min a b : Nat) : Int) := by omega
noncomputable def Kp (P X : Prop) : Prop := P = X
noncomputable abbrev Thr (P X : Prop) : Prop := Kp P X → X → P
set_option compiler.extract_closed false
local macro_rules | `(tactic| dsimp only) => `(tactic| (refine' (?f : Thr _ _) ?d ?n; (case d => (dsimp only []); exact (rfl : (_ : Prop) = _)); (case f => intro _ _; assumption)))
section
noncomputable abbrev Led := List (Addr × Obj)
noncomputable abbrev Reg := Addr → Nat
noncomputable def Fixed (o : Obj) : Prop := (o.cls = .type "tuple" ∧ ∃ items n, o.data = .seq items n) ∨ ((∃ C, o.cls = .ref C) ∧ o.data = .plain)
structure Gw (R : Nat → Prop) (reg : Reg) (news : Led) (reg' : Reg) (news' : Led) : Prop where
  keep : ∀ p ∈ news, ¬ R (reg p.1) → p ∈ news'
  fixed : ∀ p ∈ news, Fixed p.2 → p ∈ news'
  rg : ∀ p ∈ news, ¬ R (reg p.1) → reg' p.1 = reg p.1
structure Gr (R : Nat → Prop) (reg : Reg) (news : Led) (reg' : Reg) (news' : Led) : Prop extends Gw R reg news reg' news' where
  regs : ∀ p ∈ news, reg' p.1 = reg p.1
  here : ∀ p ∈ news, ∃ o, (p.1, o) ∈ news'
theorem Gr.refl {R reg news} : Gr R reg news reg news := ⟨⟨fun _ h _ => h, fun _ h _ => h, fun _ _ _ => rfl⟩, fun _ _ => rfl, fun p h => ⟨p.2, h⟩⟩
theorem Gr.trans {R reg news reg' news' reg'' news''} (a : Gr R reg news reg' news') (b : Gr R reg' news' reg'' news'') : Gr R reg news reg'' news'' where
  keep p h n := b.keep p (a.keep p h n) (by rw [a.rg p h n]; exact n)
  fixed p h n := b.fixed p (a.fixed p h n) n
  rg p h _ := by obtain ⟨o, ho⟩ := a.here p h; rw [← a.regs p h]; exact b.regs (p.1, o) ho
  regs p h := by obtain ⟨o, ho⟩ := a.here p h; rw [← a.regs p h]; exact b.regs (p.1, o) ho
  here p h := by obtain ⟨o, ho⟩ := a.here p h; exact b.here (p.1, o) ho
theorem Gr.mono {R S : Nat → Prop} {reg news reg' news'} (h : ∀ k, R k → S k) (a : Gr R reg news reg' news') : Gr S reg news reg' news' :=
  ⟨⟨fun p hp n => a.keep p hp fun r => n (h _ r), a.fixed, fun p hp _ => a.regs p hp⟩, a.regs, a.here⟩
theorem Gr.cons {R reg news} {q : Addr × Obj} : Gr R reg news reg (q :: news) := ⟨⟨fun _ h _ => .tail _ h, fun _ h _ => .tail _ h, fun _ _ _ => rfl⟩, fun _ _ => rfl, fun p h => ⟨p.2, .tail _ h⟩⟩
theorem Gr.sub {R reg news news'} (h : ∀ p ∈ news, p ∈ news') : Gr R reg news reg news' := ⟨⟨fun p hp _ => h p hp, fun p hp _ => h p hp, fun _ _ _ => rfl⟩, fun _ _ => rfl, fun p hp => ⟨p.2, h p hp⟩⟩
noncomputable def Ctr (w : World) (mean : ExcName → Option Value) (mg mb : Str → Option Value) (f : Addr) (dd uu : Nat) (args : List Value) (Pre : Led → Reg → Prop) (Post : Led → Reg → Value → Led → Reg → Prop) : Prop :=
  ∀ (dp un : Nat) (gd : Option (List Code)) (cn : Str) (cs : Scope) (a : Addr) (ccd : Value) (cl : List (Str × Addr)) (outer : List Env) (A₀ : Around) (base h₀ : Heap) (L : Addr) (m : Str → Option Value) (news : Led) (reg : Reg) (s : Shared)
    (Q E : Value → Shared → Prop),
    Below A₀ base outer h₀ → Fr h₀ L s.heap m → (KK w.params).In h₀ → News h₀ L s.heap news → Top VV (looseW VV []) mean mg mb h₀ → cs.kind = .function → Pre news reg → dp + dd < recursionLimit → un + uu < cLine →
    (∀ r news' reg' h' tk', Fr h₀ L h' m → News h₀ L h' news' → Post news reg r news' reg' → Q r { s with heap := h', toks := tk' }) →
    codeAny (model PySem.Challenge.rw_pq0074_01.row.prog w) (ktrTop dp un gd cn cs L a ccd cl outer) (.call (.ref f) ⟨args, []⟩) (fun r s' => match r with | .ok (.ret v) => Q v s' | .ok _ => False | .error e => E e s') s
noncomputable def RCtr (w : World) (mean : ExcName → Option Value) (mg mb : Str → Option Value) (f : Addr) (dd uu : Nat) (args : List Value) (Pre : Led → Reg → Prop) (Post : Value → Prop) : Prop :=
  ∀ (dp un : Nat) (gd : Option (List Code)) (cn : Str) (cs : Scope) (a : Addr) (ccd : Value) (cl : List (Str × Addr)) (outer : List Env) (A₀ : Around) (base h₀ : Heap) (L : Addr) (m : Str → Option Value) (news : Led) (reg : Reg) (s : Shared)
    (Q E : Value → Shared → Prop),
    Below A₀ base outer h₀ → Fr h₀ L s.heap m → (KK w.params).In h₀ → News h₀ L s.heap news → Top VV (looseW VV []) mean mg mb h₀ → cs.kind = .function → Pre news reg → dp + dd < recursionLimit → un + uu < cLine →
    (∀ r h' tk', Fr h₀ L h' m → News h₀ L h' news → Post r → Q r { s with heap := h', toks := tk' }) →
    codeAny (model PySem.Challenge.rw_pq0074_01.row.prog w) (ktrTop dp un gd cn cs L a ccd cl outer) (.call (.ref f) ⟨args, []⟩) (fun r s' => match r with | .ok (.ret v) => Q v s' | .ok _ => False | .error e => E e s') s
section
variable {w : World} {mean : ExcName → Option Value} {mg mb : Str → Option Value} {f : Addr} {dd uu : Nat} {args : List Value} {dp un : Nat} {gd : Option (List Code)} {cn : Str} {cs : Scope} {a : Addr} {ccd : Value} {cl : List (Str × Addr)} {outer : List Env} {A₀ : Around} {base h₀ : Heap} {L : Addr}
  {m : Str → Option Value} {news : Led} {reg : Reg} {s : Shared} {Q E : Value → Shared → Prop} {Pre : Led → Reg → Prop}
theorem RCtr.use {Post : Value → Prop} (C : RCtr w mean mg mb f dd uu args Pre Post) (B : Below A₀ base outer h₀) (F : Fr h₀ L s.heap m) (X : (KK w.params).In h₀) (N : News h₀ L s.heap news) (T : Top VV (looseW VV []) mean mg mb h₀) (hk : cs.kind = .function)
    (pre : Pre news reg) (hd : dp + dd < recursionLimit) (hu : un + uu < cLine) (ret : ∀ r h' tk', Fr h₀ L h' m → News h₀ L h' news → Post r → Q r { s with heap := h', toks := tk' }) :
    wpAny (model PySem.Challenge.rw_pq0074_01.row.prog w) (ktrTop dp un gd cn cs L a ccd cl outer) (call (.ref f) args) Q E s := wpAny_call (C _ _ _ _ _ _ _ _ _ _ _ _ _ _ _ _ _ _ _ B F X N T hk pre hd hu ret)
theorem Ctr.use {Post : Led → Reg → Value → Led → Reg → Prop} (C : Ctr w mean mg mb f dd uu args Pre Post) (B : Below A₀ base outer h₀) (F : Fr h₀ L s.heap m) (X : (KK w.params).In h₀) (N : News h₀ L s.heap news) (T : Top VV (looseW VV []) mean mg mb h₀) (hk : cs.kind = .function)
    (pre : Pre news reg) (hd : dp + dd < recursionLimit) (hu : un + uu < cLine) (ret : ∀ r news' reg' h' tk', Fr h₀ L h' m → News h₀ L h' news' → Post news reg r news' reg' → Q r { s with heap := h', toks := tk' }) :
    wpAny (model PySem.Challenge.rw_pq0074_01.row.prog w) (ktrTop dp un gd cn cs L a ccd cl outer) (call (.ref f) args) Q E s := wpAny_call (C _ _ _ _ _ _ _ _ _ _ _ _ _ _ _ _ _ _ _ B F X N T hk pre hd hu ret)
theorem Ctr.useM {v : Value} {rest : List Value} {q : Addr} {Post : Led → Reg → Value → Led → Reg → Prop} (C : Ctr w mean mg mb f dd uu (v :: rest) Pre Post) (hq : (q, methodObj (.ref f) v) ∈ news) (B : Below A₀ base outer h₀) (F : Fr h₀ L s.heap m) (X : (KK w.params).In h₀) (N : News h₀ L s.heap news) (T : Top VV (looseW VV []) mean mg mb h₀) (hk : cs.kind = .function)
    (pre : Pre news reg) (hd : dp + dd < recursionLimit) (hu : un + uu < cLine) (ret : ∀ r news' reg' h' tk', Fr h₀ L h' m → News h₀ L h' news' → Post news reg r news' reg' → Q r { s with heap := h', toks := tk' }) :
    wpAny (model PySem.Challenge.rw_pq0074_01.row.prog w) (ktrTop dp un gd cn cs L a ccd cl outer) (call (.ref q) rest) Q E s := call_meth N hq (C _ _ _ _ _ _ _ _ _ _ _ _ _ _ _ _ _ _ _ B F X N T hk pre hd hu ret)
end
structure Pt (r : Nat) (d : Addr) (reg : Reg) (news news' : Led) : Prop extends Gr (fun k => k = r) reg news reg news' where
  pt : ∀ p ∈ news, p.1 ≠ d → p ∈ news'
theorem Gr.toGr {R reg news reg' news'} (g : Gr R reg news reg' news') : Gr R reg news reg' news' := g
theorem Gw.toGw {R reg news reg' news'} (g : Gw R reg news reg' news') : Gw R reg news reg' news' := g
theorem Gw.inst {R reg news reg' news' x C d} (g : Gw R reg news reg' news') (h : (x, instObj C d) ∈ news) : (x, instObj C d) ∈ news' := g.fixed _ h (.inr ⟨⟨_, rfl⟩, rfl⟩)
theorem Gw.at {R reg news reg' news' x o k} (g : Gw R reg news reg' news') (h : (x, o) ∈ news) (hr : reg x = k) (n : ¬ R k) : (x, o) ∈ news' := g.keep _ h (by rw [hr]; exact n)
theorem Gw.regw {R reg news reg' news' x o k} (g : Gw R reg news reg' news') (h : (x, o) ∈ news) (hr : reg x = k) (n : ¬ R k) : reg' x = k := (g.rg _ h (by rw [hr]; exact n)).trans hr
theorem Gr.reg' {R reg news reg' news' x o k} (g : Gr R reg news reg' news') (h : (x, o) ∈ news) (hr : reg x = k) : reg' x = k := (g.regs _ h).trans hr
theorem Gw.both {R reg news reg' news' x o k} (g : Gw R reg news reg' news') (h : (x, o) ∈ news) (hr : reg x = k) (n : ¬ R k) : (x, o) ∈ news' ∧ reg' x = k := ⟨g.at h hr n, g.regw h hr n⟩
theorem Gr.fresh {R reg news x o k} (h : ∀ p ∈ news, p.1 < x) : ∃ reg', Gr R reg news reg' ((x, o) :: news) ∧ reg' x = k := by
  have e : ∀ p ∈ news, (fun a => if a = x then k else reg a) p.1 = reg p.1 := fun p hp => by
    have := h p hp
    exact if_neg (Nat.ne_of_lt this)
  exact ⟨fun a => if a = x then k else reg a, ⟨⟨fun _ h _ => .tail _ h, fun _ h _ => .tail _ h, fun p h _ => e p h⟩, e, fun p h => ⟨p.2, .tail _ h⟩⟩, if_pos rfl⟩
noncomputable def LAt (news : Led) (reg : Reg) (k : Nat) (a : Addr) (vs : List Value) : Prop := ∃ n, (a, PySem.W.listOf vs.toArray n) ∈ news ∧ reg a = k
theorem LAt.gr {R reg news reg' news' k a vs} (h : LAt news reg k a vs) (g : Gw R reg news reg' news') (n : ¬ R k) : LAt news' reg' k a vs := by
  obtain ⟨c, h1, h2⟩ := h
  exact ⟨c, g.keep _ h1 (by rw [h2]; exact n), by rw [g.rg _ h1 (by rw [h2]; exact n)]; exact h2⟩
noncomputable def nats (l : List Nat) : List Int := l.map fun (n : Nat) => (n : Int)
noncomputable def root (up : List Nat) (a : Nat) : Nat := if h : up.getD a 0 < a then root up (up.getD a 0) else a
termination_by a
decreasing_by exact h
theorem nats_get {ns : List Nat} {n : Nat} (h : n < ns.length) : (nats ns)[n]? = some ((ns.getD n 0 : Nat) : Int) := by
  simp [nats, h]
section
variable {prog : Program} {w : World} {A : Around} {E : Value → Shared → Prop} {s : Shared} {h₀ : Heap} {L : Addr} {news : Led}
theorem item_at {value slice : Expr} {l : Addr} {vs : List Value} {c n : Nat} {u : Tok} {v : Value} {Q : Value → Shared → Prop}
    (N : News h₀ L s.heap news) (hm : (l, PySem.W.listOf vs.toArray c) ∈ news) (hx : vs[n]? = some v) (hn : n < 2 ^ 62) (h : Q v s)
    (hs : subscripted slice false (.ref l) (.int n u) = operate [.ref l, .int n u] (getItem (.ref l) (.int n u)) := by with_unfolding_all rfl) :
    wpAny (model prog w) A (subscriptTail value slice (.ref l) (.int n u)) Q E s :=
  have hl : s.heap.IsList l vs.toArray := ⟨_, (N _ hm).1, rfl, _, rfl⟩
  tail_any hl.typeIs slot_list_getitem.lookup (wpAny_getItem_list hl (Int.natCast_nonneg n) (by omega) (by simpa using hx) h) hs
theorem item_nat {value slice : Expr} {l : Addr} {vs : List Value} {ns : List Nat} {c n : Nat} {u : Tok} {Q : Value → Shared → Prop}
    (N : News h₀ L s.heap news) (hm : (l, PySem.W.listOf vs.toArray c) ∈ news) (hI : IntsAre vs (nats ns)) (hx : n < ns.length) (hn : n < 2 ^ 62) (h : ∀ t, Q (.int ((ns.getD n 0 : Nat) : Int) t) s)
    (hs : subscripted slice false (.ref l) (.int n u) = operate [.ref l, .int n u] (getItem (.ref l) (.int n u)) := by with_unfolding_all rfl) :
    wpAny (model prog w) A (subscriptTail value slice (.ref l) (.int n u)) Q E s := by
  obtain ⟨t, ht⟩ := hI.get n _ (nats_get hx)
  exact item_at N hm ht hn (h t) hs
end
noncomputable abbrev mp (l : List (Str × Value)) : Str → Option Value := fun z => l.lookup z
theorem lookup_cons {x : Str} {v : Value} {l : List (Str × Value)} : (fun y => if y = x then some v else l.lookup y) = fun y => ((x, v) :: l).lookup y := by
  funext y
  simp only [List.lookup]
  by_cases h : y = x
  · subst h; simp
  · rw [if_neg h, show (y == x) = false from beq_eq_false_iff_ne.mpr h]
theorem root_step {up : List Nat} {a : Nat} (h : up.getD a 0 < a) : root up (up.getD a 0) = root up a := by
  conv => rhs; rw [root]
  rw [dif_pos h]
theorem root_le (up : List Nat) : ∀ a, root up a ≤ a := by
  intro a
  induction a using Nat.strongRecOn with
  | ind a ih =>
    rw [root]
    split
    · rename_i h; exact Nat.le_trans (ih _ h) (Nat.le_of_lt h)
    · exact Nat.le_refl _
theorem rg_ne {o a b : Nat} (h : Nat.beq a b = false) : ¬ (o + a = o + b) := fun e => by
  have := Nat.add_left_cancel e
  subst this
  simp at h
theorem rg_lo {o k n : Nat} (h : Nat.ble n k = false) : ¬ (k = o + n) := fun e => by
  have : ¬ n ≤ k := fun q => by rw [Nat.ble_eq_true_of_le q] at h; cases h
  omega
theorem rg_hi {o k n : Nat} (h : Nat.ble n k = false) : ¬ (o + n = k) := fun e => rg_lo h e.symm
noncomputable def RS (o : Nat) (l : List Nat) (k : Nat) : Prop := ∃ n, l.contains n = true ∧ k = o + n
theorem rs_no {o n : Nat} {l : List Nat} (h : l.contains n = false) : ¬ RS o l (o + n) := fun ⟨a, ha, e⟩ => by
  have := Nat.add_left_cancel e
  subst this
  rw [h] at ha
  cases ha
theorem rs_lo {o k : Nat} {l : List Nat} (h : l.all (fun a => !Nat.ble a k) = true) : ¬ RS o l k := fun ⟨a, ha, e⟩ => by
  have := List.all_eq_true.mp h a (by simpa using ha)
  exact rg_lo (by simpa using this) e
theorem rs_sub {o : Nat} {l l' : List Nat} (h : l.all (fun a => l'.contains a) = true) (k : Nat) (r : RS o l k) : RS o l' k := by
  obtain ⟨a, ha, e⟩ := r
  exact ⟨a, List.all_eq_true.mp h a (by simpa using ha), e⟩
noncomputable def Off (R : Nat → Prop) (o : Nat) (l : List Nat) : Prop := ∀ n, l.contains n = true → ¬ R (o + n)
theorem off_no {o l} : Off (fun _ => False) o l := fun _ _ => id
theorem off_rs {o : Nat} {l l' : List Nat} (h : l.all (fun a => !l'.contains a) = true) : Off (RS o l') o l := fun n hn => rs_no (by simpa using List.all_eq_true.mp h n (by simpa using hn))
theorem off_rg {o b : Nat} {l : List Nat} (h : l.contains b = false) : Off (fun k => k = o + b) o l := fun n hn => rg_ne (by
  cases q : Nat.beq n b with
  | false => rfl
  | true => rw [Nat.eq_of_beq_eq_true q, h] at hn; cases hn)
theorem off_hi {o k : Nat} {l : List Nat} (h : l.all (fun a => !Nat.ble a k) = true) : Off (fun j => j = k) o l := fun n hn => rg_hi (by
  have := List.all_eq_true.mp h n (by simpa using hn)
  simpa using this)
theorem off_far {o o' : Nat} {l l' : List Nat} (h : l.all (fun a => Nat.ble a 15) = true) (h' : l'.all (fun a => Nat.ble a 15) = true) (d : o + 15 < o' ∨ o' + 15 < o) : Off (RS o' l') o l := fun n hn ⟨a, ha, e⟩ => by
  have h1 := List.all_eq_true.mp h n (by simpa using hn)
  have h2 := List.all_eq_true.mp h' a (by simpa using ha)
  have h1 := Nat.le_of_ble_eq_true h1
  have h2 := Nat.le_of_ble_eq_true h2
  omega
theorem Off.sub {R o} {l l' : List Nat} (h : Off R o l) (e : l'.all (fun a => l.contains a) = true) : Off R o l' := fun n hn => h n (List.all_eq_true.mp e n (by simpa using hn))
theorem Gr.up {o : Nat} {l l' : List Nat} {reg news reg' news'} (g : Gr (RS o l) reg news reg' news') (h : l.all (fun a => l'.contains a) = true) : Gr (RS o l') reg news reg' news' := g.mono (rs_sub h)
theorem Gr.rs {o n : Nat} {l : List Nat} {reg news reg' news'} (g : Gr (fun k => k = o + n) reg news reg' news') (h : l.contains n = true) : Gr (RS o l) reg news reg' news' := g.mono fun _ e => ⟨n, h, e⟩
theorem Gr.no {R} {reg news reg' news'} (g : Gr (fun _ => False) reg news reg' news') : Gr R reg news reg' news' := g.mono fun _ e => e.elim
end
section
noncomputable abbrev HK (w : World) (x : Str) : Int := PyData.keyHash w.params x
noncomputable abbrev tupO (vs : List Value) (n : Nat) : Obj := { cls := .type "tuple", data := .seq vs.toArray n }
theorem Gw.tup {R reg news reg' news' x us c} (g : Gw R reg news reg' news') (h : (x, tupO us c) ∈ news) : (x, tupO us c) ∈ news' := g.fixed _ h (.inl ⟨rfl, _, _, rfl⟩)
noncomputable abbrev lisO (vs : List Value) (n : Nat) : Obj := PySem.W.listOf vs.toArray n
mutual
inductive DT (news : Led) (reg : Reg) : Value → PyData → Prop
  | none : DT news reg .none .none
  | bool (b : Bool) : DT news reg (.bool b) (.bool b)
  | int (i : Int) (t : Tok) : DT news reg (.int i t) (.int i)
  | str (x : Str) (t : Tok) : DT news reg (.str x t) (.str x)
  | tuple {a : Addr} {vs : List Value} {n : Nat} {ds : List PyData} : (a, tupO vs n) ∈ news → DTs news reg vs ds → DT news reg (.ref a) (.tuple ds)
  | list {a : Addr} {vs : List Value} {n : Nat} {ds : List PyData} : (a, lisO vs n) ∈ news → reg a = 2 → DTs news reg vs ds → DT news reg (.ref a) (.list ds)
inductive DTs (news : Led) (reg : Reg) : List Value → List PyData → Prop
  | nil : DTs news reg [] []
  | cons {v : Value} {d : PyData} {vs : List Value} {ds : List PyData} : DT news reg v d → DTs news reg vs ds → DTs news reg (v :: vs) (d :: ds)
end
theorem DT.gr {R reg news reg' news'} (g : Gw R reg news reg' news') (h2 : ¬ R 2) {v d} (h : DT news reg v d) : DT news' reg' v d :=
  DT.rec (motive_1 := fun v d _ => DT news' reg' v d) (motive_2 := fun vs ds _ => DTs news' reg' vs ds) .none .bool .int .str (fun hm _ r => .tuple (g.fixed _ hm (.inl ⟨rfl, _, _, rfl⟩)) r)
    (fun hm hr _ r => .list (g.keep _ hm (by rw [hr]; exact h2)) (by rw [g.rg _ hm (by rw [hr]; exact h2)]; exact hr) r) .nil (fun _ _ a b => .cons a b) h
theorem DTs.ind {news reg} {M : List Value → List PyData → Prop} (h0 : M [] []) (h1 : ∀ v d vs ds, DT news reg v d → M vs ds → M (v :: vs) (d :: ds)) {vs ds} (h : DTs news reg vs ds) : M vs ds :=
  DTs.rec (motive_1 := fun _ _ _ => True) (motive_2 := fun vs ds _ => M vs ds) trivial (fun _ => trivial) (fun _ _ => trivial) (fun _ _ => trivial) (fun _ _ _ => trivial) (fun _ _ _ _ => trivial) h0 (fun a _ _ m => h1 _ _ _ _ a m) h
theorem DTs.gr {R reg news reg' news'} (g : Gw R reg news reg' news') (h2 : ¬ R 2) {vs ds} (h : DTs news reg vs ds) : DTs news' reg' vs ds :=
  DTs.ind (M := fun vs ds => DTs news' reg' vs ds) .nil (fun _ _ _ _ a m => .cons (DT.gr g h2 a) m) h
theorem DTs.length {news reg} {vs ds} (h : DTs news reg vs ds) : vs.length = ds.length :=
  DTs.ind (M := fun vs ds => vs.length = ds.length) rfl (fun _ _ _ _ _ m => congrArg Nat.succ m) h
theorem DTs.append {news reg} {vs ds ws es} (h : DTs news reg vs ds) (k : DTs news reg ws es) : DTs news reg (vs ++ ws) (ds ++ es) :=
  DTs.ind (M := fun vs ds => DTs news reg (vs ++ ws) (ds ++ es)) k (fun _ _ _ _ a m => .cons a m) h
theorem DTs.get {news reg} {vs ds} (h : DTs news reg vs ds) : ∀ {k : Nat} {d : PyData}, ds[k]? = some d → ∃ v, vs[k]? = some v ∧ DT news reg v d :=
  DTs.ind (M := fun vs ds => ∀ {k : Nat} {d : PyData}, ds[k]? = some d → ∃ v, vs[k]? = some v ∧ DT news reg v d) (fun e => nomatch e) (fun _ _ _ _ a m k _ e => by
    cases k with
    | zero => exact ⟨_, rfl, Option.some.inj e ▸ a⟩
    | succ k => exact m (k := k) e) h
theorem DTs.take {news reg} {vs ds} (h : DTs news reg vs ds) : ∀ k : Nat, DTs news reg (vs.take k) (ds.take k) :=
  DTs.ind (M := fun vs ds => ∀ k : Nat, DTs news reg (vs.take k) (ds.take k)) (fun k => by cases k <;> exact .nil) (fun _ _ _ _ a m k => by
    cases k with
    | zero => exact .nil
    | succ k => exact .cons a (m k)) h
theorem DTs.ints {news reg} {vs : List Value} {ns : List Int} (h : IntsAre vs ns) : DTs news reg vs (ns.map .int) := by
  induction h with
  | nil => exact .nil
  | cons n t _ ih => exact .cons (.int n t) ih
theorem ints_of {news reg} {vs : List Value} {ns : List Int} (h : DTs news reg vs (ns.map .int)) : IntsAre vs ns := by
  induction ns generalizing vs with
  | nil => cases h; exact .nil
  | cons n ns ih => cases h with | cons a r => cases a; exact .cons n _ (ih r)
section
variable {h₀ h : Heap} {L : Addr} {news : Led} {reg : Reg}
theorem DT.reads (N : News h₀ L h news) {v d} (k : DT news reg v d) : ∃ as, Reads h v d as :=
  DT.rec (motive_1 := fun v d _ => ∃ as, Reads h v d as) (motive_2 := fun vs ds _ => ∃ as, ReadsAll h vs ds as) ⟨_, Reads.none⟩ (fun b => ⟨_, Reads.bool b⟩) (fun i t => ⟨_, Reads.int i t⟩) (fun x t => ⟨_, Reads.str x t⟩)
    (fun hm _ r => r.elim fun as q => ⟨as, reads_tuple_at (N.get hm) rfl rfl (by simpa using q)⟩) (fun hm _ _ r => r.elim fun as q => ⟨_, reads_list_at (N.get hm) rfl rfl (by simpa using q)⟩)
    ⟨_, ReadsAll.nil⟩ (fun _ _ p q => p.elim fun _ p => q.elim fun _ q => ⟨_, ReadsAll.cons p q⟩) k
theorem DTs.reads (N : News h₀ L h news) {vs ds} (k : DTs news reg vs ds) : ∃ as, ReadsAll h vs ds as :=
  DTs.ind (M := fun vs ds => ∃ as, ReadsAll h vs ds as) ⟨_, ReadsAll.nil⟩ (fun _ _ _ _ p q => (DT.reads N p).elim fun _ p => q.elim fun _ q => ⟨_, ReadsAll.cons p q⟩) k
end
noncomputable def pureD : Nat → PyData → Bool
  | _, .int _ => true
  | _, .str x => PyData.strOk x
  | n + 1, .tuple ds => ds.all (pureD n)
  | n + 1, .list ds => ds.all (pureD n)
  | _, _ => false
inductive Pu : Nat → PyData → Prop
  | int (n : Nat) (i : Int) : Pu n (.int i)
  | str (n : Nat) (x : Str) : PyData.strOk x = true → Pu n (.str x)
  | tuple (n : Nat) (ds : List PyData) : (∀ d ∈ ds, pureD n d = true) → Pu (n + 1) (.tuple ds)
  | list (n : Nat) (ds : List PyData) : (∀ d ∈ ds, pureD n d = true) → Pu (n + 1) (.list ds)
theorem pu_of {n : Nat} {d : PyData} (h : pureD n d = true) : Pu n d := by
  cases d with
  | int i => exact .int n i
  | str x => exact .str n x (by simpa [pureD] using h)
  | tuple ds => cases n with
    | zero => exact absurd h (by simp [pureD])
    | succ n => exact .tuple n ds (List.all_eq_true.mp (by simpa only [pureD] using h))
  | list ds => cases n with
    | zero => exact absurd h (by simp [pureD])
    | succ n => exact .list n ds (List.all_eq_true.mp (by simpa only [pureD] using h))
  | _ => exact absurd h (by simp [pureD])
theorem lay_all {n : Nat} {ds : List PyData} (h : ∀ d ∈ ds, d.canLay0 = true ∧ d.depth ≤ n) : PyData.canLayAll0 ds = true ∧ PyData.depthAll ds ≤ n := by
  induction ds with
  | nil => exact ⟨rfl, Nat.zero_le _⟩
  | cons d ds hi =>
    have h1 := h d (.head _)
    have h2 := hi fun e he => h e (.tail _ he)
    simp only [PyData.canLayAll0, PyData.depthAll, h1.1, h2.1, Bool.and_self, true_and]
    exact Nat.max_le.mpr ⟨h1.2, h2.2⟩
theorem pureD_lay (n : Nat) (d : PyData) (h : pureD n d = true) : d.canLay0 = true ∧ d.depth ≤ n := by
  induction n generalizing d with
  | zero => cases pu_of h with
    | int => simp [PyData.canLay0, PyData.depth]
    | str _ _ hx => simp [PyData.canLay0, PyData.depth, hx]
  | succ n ih => cases pu_of h with
    | int => simp [PyData.canLay0, PyData.depth]
    | str _ _ hx => simp [PyData.canLay0, PyData.depth, hx]
    | tuple _ _ hd => have q := lay_all fun d h => ih d (hd d h); simp only [PyData.canLay0, PyData.depth, q.1, true_and]; have := q.2; omega
    | list _ _ hd => have q := lay_all fun d h => ih d (hd d h); simp only [PyData.canLay0, PyData.depth, q.1, true_and]; have := q.2; omega
theorem eqv_all {n k : Nat} (ih : ∀ d e, pureD n d = true → pureD k e = true → (PyData.eqv d e = true ↔ d = e)) : ∀ (ds es : List PyData), (∀ d ∈ ds, pureD n d = true) → (∀ d ∈ es, pureD k d = true) → (PyData.eqvAll ds es = true ↔ ds = es) := by
  intro ds
  induction ds with
  | nil => intro es _ _; cases es <;> simp [PyData.eqvAll]
  | cons d ds hi =>
    intro es h1 h2
    cases es with
    | nil => simp [PyData.eqvAll]
    | cons e es =>
      have q1 := ih d e (h1 d (.head _)) (h2 e (.head _))
      have q2 := hi es (fun x hx => h1 x (.tail _ hx)) fun x hx => h2 x (.tail _ hx)
      simp only [PyData.eqvAll, Bool.and_eq_true, q1, q2, List.cons.injEq]
theorem pureD_eqv (n : Nat) (d e : PyData) (k : Nat) (h1 : pureD n d = true) (h2 : pureD k e = true) : PyData.eqv d e = true ↔ d = e := by
  induction n generalizing d e k with
  | zero => cases pu_of h1 <;> cases pu_of h2 <;> simp [PyData.eqv]
  | succ n ih =>
    cases pu_of h1 with
    | tuple _ _ hd => cases pu_of h2 with
      | tuple _ _ he => simp only [PyData.eqv, PyData.tuple.injEq]; exact eqv_all (fun d e a b => ih d e _ a b) _ _ hd he
      | _ => simp [PyData.eqv]
    | list _ _ hd => cases pu_of h2 with
      | list _ _ he => simp only [PyData.eqv, PyData.list.injEq]; exact eqv_all (fun d e a b => ih d e _ a b) _ _ hd he
      | _ => simp [PyData.eqv]
    | _ => cases pu_of h2 <;> simp [PyData.eqv]
noncomputable abbrev Atom := Str ⊕ Int
noncomputable def atomIs : Atom → Value → Bool
  | .inl x, v => Value.isStrOf x v
  | .inr i, v => Value.isInt i v
noncomputable def atomHash (w : World) : Atom → Int
  | .inl x => hashStr w x
  | .inr i => hashInt i
theorem atomIs_inj (v : Value) (a b : Atom) (ha : atomIs a v = true) (hb : atomIs b v = true) : a = b := by
  cases a with
  | inl x =>
    cases b with
    | inl y => rw [Value.isStrOf_inj v x y ha hb]
    | inr j =>
      obtain ⟨t, rfl⟩ := Value.isStrOf_shape ha
      simp [atomIs, Value.isInt] at hb
  | inr i =>
    cases b with
    | inl y =>
      obtain ⟨t, rfl⟩ := Value.isStrOf_shape hb
      simp [atomIs, Value.isInt] at ha
    | inr j => rw [Value.isInt_inj v i j ha hb]
section
variable {w : World} {A : Around} {E : Value → Shared → Prop} {s : Shared}
theorem eqBool_si {a : Str} {t : Tok} {b : Int} {u : Tok} {Q : Bool → Shared → Prop} (h : Q false s) : wpAny (model PG w) A (eqBool (.str a t) (.int b u)) Q E s := by
  unfold eqBool
  try with_reducible refine wpAny_holding ?_
  show wpAny _ _ (if (Value.str a t == Value.int b u) = true then _ else _) Q E s
  rw [if_neg (show ¬ (Value.str a t == Value.int b u) = true by intro e; exact nomatch eq_of_beq e)]
  exact wpAny_bind (EqMixed.eq_str_int (wpAny_truthy_bool h))
theorem eqBool_is {a : Str} {t : Tok} {b : Int} {u : Tok} {Q : Bool → Shared → Prop} (h : Q false s) : wpAny (model PG w) A (eqBool (.int b u) (.str a t)) Q E s := by
  unfold eqBool
  try with_reducible refine wpAny_holding ?_
  show wpAny _ _ (if (Value.int b u == Value.str a t) = true then _ else _) Q E s
  rw [if_neg (show ¬ (Value.int b u == Value.str a t) = true by intro e; exact nomatch eq_of_beq e)]
  exact wpAny_bind (EqMixed.eq_int_str (wpAny_truthy_bool h))
end
noncomputable def atomKind (w : World) : KeyKind PG w Atom where
  is := atomIs
  hash := atomHash w
  inj := atomIs_inj
  byValue := fun k v h => by
    cases k with
    | inl x => obtain ⟨t, rfl⟩ := Value.isStrOf_shape h; rfl
    | inr i => obtain ⟨t, rfl⟩ := Value.isInt_shape h; rfl
  pyHash := fun {A E s k v Q} hv h => by
    cases k with
    | inl x => obtain ⟨t, rfl⟩ := Value.isStrOf_shape hv; exact wpAny_pyHash_str h
    | inr i => obtain ⟨t, rfl⟩ := Value.isInt_shape hv; exact wpAny_pyHash_int h
  eqBool := fun {A E s a b u v Q} hu hv h => by
    cases a with
    | inl x =>
      obtain ⟨t, rfl⟩ := Value.isStrOf_shape hu
      cases b with
      | inl y => obtain ⟨t', rfl⟩ := Value.isStrOf_shape hv; exact wpAny_eqBool_str (by simpa using h)
      | inr j => obtain ⟨t', rfl⟩ := Value.isInt_shape hv; exact eqBool_si (by simpa using h)
    | inr i =>
      obtain ⟨t, rfl⟩ := Value.isInt_shape hu
      cases b with
      | inl y => obtain ⟨t', rfl⟩ := Value.isStrOf_shape hv; exact eqBool_is (by simpa using h)
      | inr j => obtain ⟨t', rfl⟩ := Value.isInt_shape hv; exact wpAny_eqBool_int (by have e : decide ((Sum.inr i : Atom) = Sum.inr j) = (i == j) := (by simp; rfl); rw [← e]; exact h)
  «strs» := fun k x t v h => by
    cases k with
    | inl y =>
      have h' : Value.isStrOf y (.str x t) = true := h
      obtain ⟨u, hu⟩ := Value.isStrOf_shape h'
      injection hu with hx
      subst hx
      cases v <;> rfl
    | inr i => simp [atomIs, Value.isInt] at h
noncomputable abbrev tupKind (w : World) : HeapKind PG w (List Atom) := tupleKind (atomKind w)
noncomputable def atomD : Atom → PyData
  | .inl x => .str x
  | .inr i => .int i
theorem items_of {w : World} {news : Led} {reg : Reg} {vs : List Value} {ks : List Atom} (h : DTs news reg vs (ks.map atomD)) : ItemsAre (atomKind w) ks vs := by
  induction ks generalizing vs with
  | nil => cases h; exact .nil
  | cons k ks ih => cases h with
    | cons a r => cases k with
      | inl x => cases a; exact .cons (by simp [atomKind, atomIs, Value.isStrOf]) (ih r)
      | inr i => cases a; exact .cons (by simp [atomKind, atomIs, Value.isInt]) (ih r)
noncomputable def TDict (w : World) (news : Led) (o : Obj) (f : List Atom → Option Nat) (m : Nat) : Prop :=
  ∃ (xs : List (List Atom × Addr × Value)) (es : Array DictEntry) (ep : Nat), o = { cls := .type "dict", data := .dict es ep } ∧ es.toList = xs.map (entryOfKey (tupKind w)) ∧
    (∀ x ∈ xs, ∃ vs n, (x.2.1, tupO vs n) ∈ news ∧ ItemsAre (atomKind w) x.1 vs) ∧ (xs.map (·.1)).Nodup ∧ xs.length = m ∧
    (∀ k, match f k with | none => atKey xs k = none | some n => ∃ a t, atKey xs k = some (a, .int (n : Int) t))
theorem TDict.gr {w R reg news reg' news' o f m} (g : Gw R reg news reg' news') (h : TDict w news o f m) : TDict w news' o f m := by
  obtain ⟨xs, es, ep, h1, h2, h3, r⟩ := h
  refine ⟨xs, es, ep, h1, h2, fun x hx => ?_, r⟩
  obtain ⟨vs, n, hm, hi⟩ := h3 x hx
  exact ⟨vs, n, g.fixed _ hm (.inl ⟨rfl, _, _, rfl⟩), hi⟩
theorem TDict.at {w} {h₀ h : Heap} {L d : Addr} {news : Led} {o f m} (N : News h₀ L h news) (hm : (d, o) ∈ news) (T : TDict w news o f m) :
    ∃ xs, h.DictOfH (tupKind w) d xs ∧ xs.length = m ∧ (∀ k, match f k with | none => atKey xs k = none | some n => ∃ a t, atKey xs k = some (a, .int (n : Int) t)) := by
  obtain ⟨xs, es, ep, rfl, h2, h3, h4, h5, h6⟩ := T
  refine ⟨xs, ⟨_, es, ep, N.get hm, ⟨rfl, rfl, rfl⟩, rfl, h2, fun x hx => ?_, h4⟩, h5, h6⟩
  obtain ⟨vs, n, hm, hi⟩ := h3 x hx
  exact ⟨_, vs.toArray, n, N.get hm, rfl, rfl, by simpa using hi⟩
noncomputable def IDict (w : World) (o : Obj) (f : Int → Option Value) (q : Nat) : Prop :=
  ∃ kvs : List (Int × Value), o.IsDictOf (intKind PG w) kvs ∧ (∀ k, valueAt kvs k = f k) ∧ kvs.length ≤ q
theorem find_put_ne {k x : Int} (hx : ¬ x = k) (v : Value) : ∀ kvs : List (Int × Value), ((kvs.map fun kv => if kv.1 = k then (kv.1, v) else kv).find? fun kv => kv.1 = x) = kvs.find? fun kv => kv.1 = x
  | [] => rfl
  | p :: r => by
    rw [List.map_cons, List.find?_cons, List.find?_cons, find_put_ne hx v r]
    by_cases e : p.1 = k
    · have e2 : ¬ p.1 = x := fun q => hx (q.symm.trans e)
      simp only [if_pos e, e2, decide_false]
    · simp only [if_neg e]
theorem find_put_eq {k : Int} (v : Value) : ∀ kvs : List (Int × Value), kvs.any (fun kv => kv.1 = k) = true → ((kvs.map fun kv => if kv.1 = k then (kv.1, v) else kv).find? fun kv => kv.1 = k) = some (k, v)
  | [], h => by simp at h
  | p :: r, h => by
    rw [List.map_cons, List.find?_cons]
    by_cases e : p.1 = k
    · have e1 : (if p.1 = k then (p.1, v) else p) = (k, v) := by rw [if_pos e, e]
      rw [e1]; simp
    · have e1 : (if p.1 = k then (p.1, v) else p) = p := if_neg e
      have e2 : decide (p.1 = k) = false := decide_eq_false e
      rw [e1, e2]
      exact find_put_eq v r (by simpa [e] using h)
theorem valueAt_stored (kvs : List (Int × Value)) (k : Int) (v : Value) (x : Int) : valueAt (stored kvs k v) x = if x = k then some v else valueAt kvs x := by
  unfold stored valueAt
  split
  · rename_i h
    by_cases e : x = k
    · subst e
      rw [find_put_eq v kvs h, if_pos rfl]; rfl
    · rw [find_put_ne e, if_neg e]
  · rename_i h
    rw [List.find?_append]
    by_cases e : x = k
    · subst e
      have : kvs.find? (fun kv => decide (kv.1 = x)) = none := by
        rw [List.find?_eq_none]
        intro p hp hk
        exact h (List.any_eq_true.mpr ⟨p, hp, hk⟩)
      simp [this]
    · have e' : ¬ k = x := fun q => e q.symm
      simp [e, e']
theorem valueAt_without (kvs : List (Int × Value)) (k : Int) (x : Int) : valueAt (without kvs k) x = if x = k then none else valueAt kvs x := by
  unfold without valueAt
  rw [List.find?_filter]
  by_cases e : x = k
  · subst e
    rw [if_pos rfl]
    have : (kvs.find? fun a => decide (decide (a.1 ≠ x) = true ∧ decide (a.1 = x) = true)) = none := by
      rw [List.find?_eq_none]
      intro p _ hk
      simp at hk
    rw [this]; rfl
  · rw [if_neg e]
    congr 2
    funext a
    by_cases e2 : a.1 = x
    · subst e2; simp [e]
    · simp [e2]
theorem stored_length (kvs : List (Int × Value)) (k : Int) (v : Value) : (stored kvs k v).length = if (valueAt kvs k).isSome then kvs.length else kvs.length + 1 := by
  have e : (valueAt kvs k).isSome = kvs.any (fun kv => decide (kv.1 = k)) := by
    unfold valueAt
    rw [Option.isSome_map, Bool.eq_iff_iff, List.find?_isSome, List.any_eq_true]
  unfold stored
  rw [e]
  split <;> simp
end
section
noncomputable abbrev others (news : Led) (d : Addr) : Led := news.filter fun p => decide (p.1 ≠ d)
theorem off_others {news : Led} {d : Addr} : ∀ p ∈ others news d, p.1 ≠ d := fun p hp => by simpa using (List.mem_filter.mp hp).2
section
variable {h₀ h : Heap} {L d : Addr} {news : Led} {reg : Reg} {o o' : Obj} {r : Nat}
theorem led_split (N : News h₀ L h news) (hm : (d, o) ∈ news) : News h₀ L h ((d, o) :: others news d) := fun p hp => by
  rcases List.mem_cons.mp hp with rfl | hp
  · exact N _ hm
  · exact N _ (List.mem_filter.mp hp).1
theorem led_upd : Upd d o o' ((d, o) :: others news d) ((d, o') :: others news d) := .head off_others
theorem led_updF : UpdF d o ((d, o) :: others news d) fun o' => (d, o') :: others news d := .head off_others
theorem gr_put (N : News h₀ L h news) (hm : (d, o) ∈ news) (hf : ¬ Fixed o) (hr : reg d = r) : Pt r d reg news ((d, o') :: others news d) where
  keep p hp n := .tail _ (List.mem_filter.mpr ⟨hp, by
    simp only [ne_eq, decide_eq_true_eq]
    intro e
    exact n (by rw [e]; exact hr)⟩)
  fixed p hp n := .tail _ (List.mem_filter.mpr ⟨hp, by
    simp only [ne_eq, decide_eq_true_eq]
    intro e
    have h1 := (N p hp).1
    rw [e, (N _ hm).1] at h1
    rw [← Option.some.inj h1] at n
    exact hf n⟩)
  rg _ _ _ := rfl
  regs _ _ := rfl
  here p hp := by
    by_cases e : p.1 = d
    · exact ⟨o', by rw [e]; exact .head _⟩
    · exact ⟨p.2, .tail _ (List.mem_filter.mpr ⟨hp, by simpa using e⟩)⟩
  pt p hp n := .tail _ (List.mem_filter.mpr ⟨hp, by simpa using n⟩)
end
theorem not_fixed_list {vs n} : ¬ Fixed (lisO vs n) := by
  rintro (⟨h, _⟩ | ⟨⟨C, h⟩, _⟩)
  · exact absurd h (by show ¬ (Value.type "list" = Value.type "tuple"); decide)
  · exact nomatch h
theorem not_fixed_dict {o : Obj} (h : o.cls = .type "dict") : ¬ Fixed o := by
  rintro (⟨e, _⟩ | ⟨⟨C, e⟩, _⟩)
  · rw [h] at e; exact absurd e (by decide)
  · rw [h] at e; exact nomatch e
theorem not_fixed_type {o : Obj} {n : String} (h : o.cls = .type n) (hn : n ≠ "tuple") : ¬ Fixed o := by
  rintro (⟨e, _⟩ | ⟨⟨C, e⟩, _⟩)
  · rw [h] at e; exact hn (Value.type.inj e)
  · rw [h] at e; exact nomatch e
theorem not_fixed_ns {o : Obj} {es ep} (h : o.data = .dict es ep) : ¬ Fixed o := by
  rintro (⟨_, _, _, e⟩ | ⟨_, e⟩) <;> rw [h] at e <;> exact nomatch e
theorem kl_last_app : ∀ (vs : List Value) (y : Value), kl_last (vs ++ [y]) = some (vs, y)
  | [], _ => rfl
  | v :: vs, y => by
    have ih := kl_last_app vs y
    simp only [List.cons_append, kl_last, ih]
section
variable {w : World} {A : Around} {E : Value → Shared → Prop} {s : Shared} {h₀ : Heap} {L d : Addr} {m : Str → Option Value} {news : Led} {reg : Reg} {r c : Nat} {vs : List Value}
theorem append_N {x : Value} {Q : Value → Shared → Prop} (F : Fr h₀ L s.heap m) (N : News h₀ L s.heap news) (hm : (d, lisO vs c) ∈ news) (hr : reg d = r) (hz : vs.length ≤ sizeLine)
    (h : ∀ h' news', Fr h₀ L h' m → News h₀ L h' news' → Pt r d reg news news' → (d, lisO (vs ++ [x]) (c + 1)) ∈ news' → Q .none { s with heap := h' }) :
    wpAny (model PG w) A (call (.builtin "list.append") [.ref d, x]) Q E s := by
  refine append_K F (led_split N hm) led_upd (fun h' F' N' => ?_) (by simpa using hz)
  refine h h' _ F' N' (gr_put N hm not_fixed_list hr) ?_
  simp [lisO]
theorem pop_N {y : Value} {Q : Value → Shared → Prop} (F : Fr h₀ L s.heap m) (N : News h₀ L s.heap news) (hm : (d, lisO (vs ++ [y]) c) ∈ news) (hr : reg d = r) (hz : vs.length < sizeLine)
    (h : ∀ h' news', Fr h₀ L h' m → News h₀ L h' news' → Pt r d reg news news' → (d, lisO vs (c + 1)) ∈ news' → Q y { s with heap := h' }) :
    wpAny (model PG w) A (call (.builtin "list.pop") [.ref d]) Q E s := by
  have e : kl_last (vs ++ [y]).toArray.toList = some (vs, y) := kl_last_app vs y
  refine kl_pop F (led_split N hm) e led_upd (by simp; omega) (fun h' F' N' => ?_)
  exact h h' _ F' N' (gr_put N hm not_fixed_list hr) (.head _)
theorem extend_N {b : Addr} {us : List Value} {c2 : Nat} {Q : Value → Shared → Prop} (F : Fr h₀ L s.heap m) (N : News h₀ L s.heap news) (hm : (d, lisO vs c) ∈ news) (hb : (b, lisO us c2) ∈ news) (hne : b ≠ d) (hr : reg d = r)
    (hz : vs.length + us.length ≤ sizeLine)
    (h : ∀ h' news' c', Fr h₀ L h' m → News h₀ L h' news' → Pt r d reg news news' → (d, lisO (vs ++ us) c') ∈ news' → Q .none { s with heap := h' }) :
    wpAny (model PG w) A (call (.builtin "list.extend") [.ref d, .ref b]) Q E s := by
  have hd : ¬(!vs.toArray.isEmpty && Builtin.List.listTooLong (vs.toArray.size + us.toArray.size)) = true := extend_door (by simpa using hz)
  have hb' : (b, lisO us c2) ∈ (d, lisO vs c) :: others news d := .tail _ (List.mem_filter.mpr ⟨hb, by simpa using hne⟩)
  by_cases e : us = []
  · subst e
    refine kxn_extend F (led_split N hm) hb' rfl led_upd hd (by simp at hz ⊢; omega) (by simp at hz ⊢; omega) fun h' F' N' => ?_
    refine h h' _ c F' N' (gr_put N hm not_fixed_list hr) ?_
    rw [List.append_nil]
    exact .head _
  · refine kl_extend F (led_split N hm) hb' (l := vs ++ us) rfl (by simpa using e) led_upd hd (by simp at hz ⊢; omega) (by simp at hz ⊢; omega) fun h' F' N' => ?_
    exact h h' _ (c + 1) F' N' (gr_put N hm not_fixed_list hr) (.head _)
theorem setat_N {n : Nat} {t : Tok} {v : Value} {Q : Unit → Shared → Prop} (F : Fr h₀ L s.heap m) (N : News h₀ L s.heap news) (hm : (d, lisO vs c) ∈ news) (hr : reg d = r) (hn : n < vs.length) (hz : n < 2 ^ 62)
    (h : ∀ h' news', Fr h₀ L h' m → News h₀ L h' news' → Pt r d reg news news' → (d, lisO (vs.set n v) c) ∈ news' → Q () { s with heap := h' }) :
    wpAny (model PG w) A (setItem (.ref d) (.int n t) v) Q E s := by
  have N' := led_split N hm
  have z := N' (d, lisO vs c) (.head _)
  refine ki_setAt z.1 (Int.natCast_nonneg n) (by omega) (by simpa using hn) (h _ ((d, lisO (vs.set n v) c) :: others news d) (F.change (Heap.SameBut.update ..) z.2.1 z.2.2) (ki_turn (pre := []) _ N' (fun _ h => nomatch h) off_others ?_ ?_) (gr_put N hm not_fixed_list hr) (.head _))
  · apply Array.toList_inj.mp
    simp
  · simp
theorem len_N {n : Nat} {Q : Value → Shared → Prop} (N : News h₀ L s.heap news) (hm : (d, lisO vs c) ∈ news) (hn : vs.length = n) (hz : n < 2 ^ 62) (h : ∀ t tk, Q (.int (n : Int) t) { s with toks := tk }) :
    wpAny (model PG w) A (call (.builtin "len") [.ref d]) Q E s := by
  refine Calls.call_len_list (items := vs.toArray) ⟨_, N.get hm, rfl, c, rfl⟩ (by simp; omega) ?_
  have e : ((vs.toArray.size : Nat) : Int) = (n : Int) := by simp [hn]
  rw [e]
  exact h _ _
theorem two_sorted {x y : Int} {ns : List Int} (hp : ns.Perm [x, y]) (hs : ns.Pairwise (· ≤ ·)) : ns = [min x y, max x y] := by
  have hl := hp.length_eq
  match ns, hl with
  | [p, q], _ =>
    have h1 : p ∈ [x, y] := hp.mem_iff.mp (.head _)
    have h5 : p ≤ q := by simpa using hs
    have : p = min x y ∧ q = max x y := by
      rcases List.mem_cons.mp h1 with e | e
      · subst e
        have := List.perm_singleton.mp hp.cons_inv.symm
        simp at this
        omega
      · have e := List.mem_singleton.mp e
        subst e
        have := List.perm_singleton.mp (hp.trans (List.Perm.swap ..)).cons_inv.symm
        simp at this
        omega
    rw [this.1, this.2]
theorem sort2_N {x y : Int} {t1 t2 : Tok} {Q : Value → Shared → Prop} (F : Fr h₀ L s.heap m) (N : News h₀ L s.heap news) (hm : (d, lisO [.int x t1, .int y t2] c) ∈ news)
    (h : ∀ h' l t1 t2 c, Fr h₀ L h' m → News h₀ L h' ((l, lisO [.int (min x y) t1, .int (max x y) t2] c) :: news) → (∀ p ∈ news, p.1 < l) → Q (.ref l) { s with heap := h' }) :
    wpAny (model PG w) A (call (.builtin "sorted") [.ref d]) Q E s := by
  refine sorted_N F N (vs := [.int x t1, .int y t2]) ⟨_, N.get hm, rfl, c, rfl⟩ (.cons x t1 (.cons y t2 .nil)) (by simp) fun h' vs' ns' e F' N' hI hp hs => ?_
  obtain rfl := two_sorted hp hs
  refine bc fun z9 => ?_
  refine ex2 hI.cons_inv fun u1 r h9 => ?_; refine el2 h9 fun hq1 hI1 => ?_; clear h9
  obtain rfl := hq1
  refine ex2 hI1.cons_inv fun u2 r2 h9 => ?_; refine el2 h9 fun hq2 hI2 => ?_; clear h9
  obtain rfl := hq2
  refine z9 ?_; clear z9; try k_unmd
  obtain rfl := hI2.nil_inv
  exact h h' _ u1 u2 e F' N' (fun p hp => Nat.lt_succ_of_lt (Heap.lt_size (N p hp).1))
theorem sort2n_N {x y : Nat} {t1 t2 : Tok} {Q : Value → Shared → Prop} (F : Fr h₀ L s.heap m) (N : News h₀ L s.heap news) (hm : (d, lisO [.int (x : Int) t1, .int (y : Int) t2] c) ∈ news)
    (h : ∀ h' l t1 t2 c, Fr h₀ L h' m → News h₀ L h' ((l, lisO [.int ((min x y : Nat) : Int) t1, .int ((max x y : Nat) : Int) t2] c) :: news) → (∀ p ∈ news, p.1 < l) → Q (.ref l) { s with heap := h' }) :
    wpAny (model PG w) A (call (.builtin "sorted") [.ref d]) Q E s := by
  refine sort2_N F N hm fun h' l t1 t2 c F' N' hl => ?_
  have e1 : min (x : Int) (y : Int) = ((min x y : Nat) : Int) := by omega
  have e2 : max (x : Int) (y : Int) = ((max x y : Nat) : Int) := by omega
  rw [e1, e2] at N'
  exact h h' l t1 t2 c F' N' hl
theorem item_ref {value slice : Expr} {as : List Addr} {n : Nat} {u : Tok} {Q : Value → Shared → Prop}
    (N : News h₀ L s.heap news) (hm : (d, PySem.W.listOf (as.map Value.ref).toArray c) ∈ news) (hx : n < as.length) (hn : n < 2 ^ 62) (h : Q (.ref (as.getD n 0)) s)
    (hs : subscripted slice false (.ref d) (.int n u) = operate [.ref d, .int n u] (getItem (.ref d) (.int n u)) := by with_unfolding_all rfl) :
    wpAny (model PG w) A (subscriptTail value slice (.ref d) (.int n u)) Q E s := by
  have e : (as.map Value.ref)[n]? = some (.ref (as.getD n 0)) := by simp [hx]
  exact item_at N hm e hn h hs
theorem dset_N {f : Int → Option Value} {o : Obj} {q : Nat} {k : Int} {t : Tok} {v : Value} {Q : Unit → Shared → Prop} (F : Fr h₀ L s.heap m) (N : News h₀ L s.heap news) (hm : (d, o) ∈ news) (hr : reg d = r) (hd : IDict w o f q) (hz : q ≤ sizeLine)
    (h : ∀ h' news' o' tk, Fr h₀ L h' m → News h₀ L h' news' → Pt r d reg news news' → (d, o') ∈ news' → IDict w o' (fun x => if x = k then some v else f x) (if (f k).isSome then q else q + 1) → Q () { s with heap := h', toks := tk }) :
    wpAny (model PG w) A (setItem (.ref d) (.int k t) v) Q E s := by
  refine bc fun z9 => ?_
  refine ex1 hd fun kvs h9 => ?_; refine el3 h9 fun hk hf hq => ?_; clear h9; try clear hd
  refine z9 ?_; clear z9; try k_unmd
  have hc : o.cls = .type "dict" := by obtain ⟨_, _, e, _⟩ := hk; exact e.1
  refine kda_set F (led_split N hm) led_updF hk (intKind_is _ _ k t) (by omega) fun h' o' F' N' hk' => ?_
  refine h h' _ o' _ F' N' (gr_put N hm (not_fixed_dict hc) hr) (.head _) ⟨_, hk', fun x => ?_, ?_⟩
  · rw [valueAt_stored, hf]
  · rw [stored_length, hf]
    split <;> omega
theorem dget_N {f : Int → Option Value} {o : Obj} {q : Nat} {k : Int} {t : Tok} {v : Value} {value slice : PySem.Expr} {Q : Value → Shared → Prop} (N : News h₀ L s.heap news) (hm : (d, o) ∈ news) (hd : IDict w o f q) (hv : f k = some v) (h : Q v { s with toks := s.toks + 1 })
    (hs : subscripted slice false (.ref d) (.int k t) = operate [.ref d, (.int k t)] (getItem (.ref d) (.int k t)) := by with_unfolding_all rfl) :
    wpAny (model PG w) A (subscriptTail value slice (.ref d) (.int k t)) Q E s := by
  refine bc fun z9 => ?_
  refine ex1 hd fun kvs h9 => ?_; refine el3 h9 fun hk hf hq => ?_; clear h9; try clear hd
  refine z9 ?_; clear z9; try k_unmd
  exact kdt_tail N hm hk (kdt_getItem N hm hk (intKind_is _ _ k t) (by rw [hf]; exact hv) h) hs
theorem dpop_N {f : Int → Option Value} {o : Obj} {q : Nat} {k : Int} {t : Tok} {v : Value} {Q : Value → Shared → Prop} (F : Fr h₀ L s.heap m) (N : News h₀ L s.heap news) (hm : (d, o) ∈ news) (hr : reg d = r) (hd : IDict w o f q) (hz : q ≤ sizeLine) (hv : f k = some v)
    (h : ∀ h' news' o' tk, Fr h₀ L h' m → News h₀ L h' news' → Pt r d reg news news' → (d, o') ∈ news' → IDict w o' (fun x => if x = k then none else f x) q → Q v { s with heap := h', toks := tk }) :
    wpAny (model PG w) A (call (.builtin "dict.pop") [.ref d, .int k t]) Q E s := by
  refine bc fun z9 => ?_
  refine ex1 hd fun kvs h9 => ?_; refine el3 h9 fun hk hf hq => ?_; clear h9; try clear hd
  refine z9 ?_; clear z9; try k_unmd
  have hc : o.cls = .type "dict" := by obtain ⟨_, _, e, _⟩ := hk; exact e.1
  refine kob_pop F (led_split N hm) led_updF hk (intKind_is _ _ k t) (.inl rfl) rfl (PySem.F.args_dict_pop_2 _ _) (by rw [hf]; exact hv) (by omega) fun h' o' F' N' hk' => ?_
  refine h h' _ o' _ F' N' (gr_put N hm (not_fixed_dict hc) hr) (.head _) ⟨_, hk', fun x => ?_, ?_⟩
  · rw [valueAt_without, hf]
  · exact Nat.le_trans (length_without_le kvs k) hq
theorem tkey {a : Addr} {us : List Value} {ks : List Atom} {c2 : Nat} {h : Heap} (N : News h₀ L h news) (hk : (a, tupO us c2) ∈ news) (hi : ItemsAre (atomKind w) ks us) : (tupKind w).is h ks a :=
  ⟨_, us.toArray, c2, N.get hk, rfl, rfl, by simpa using hi⟩
theorem tin_N {f : List Atom → Option Nat} {o : Obj} {q : Nat} {ks : List Atom} {a : Addr} {us : List Value} {c2 : Nat} {Q : Value → Shared → Prop} (N : News h₀ L s.heap news) (hm : (d, o) ∈ news) (hd : TDict w news o f q) (hk : (a, tupO us c2) ∈ news) (hi : ItemsAre (atomKind w) ks us)
    (lo : (d == sysModules) = false) (hu : A.units + 1 < cLine) (h : ∀ tk, Q (.bool (f ks).isSome) { s with toks := tk }) : wpAny (model PG w) A (compareOp .In (.ref a) (.ref d)) Q E s := by
  refine bc fun z9 => ?_
  refine ex1 (TDict.at N hm hd) fun xs h9 => ?_; refine el3 h9 fun hD hq hf => ?_; clear h9
  refine z9 ?_; clear z9; try k_unmd
  refine wpAny_in_heap (knd := tupKind w) hu (tkey N hk hi) lo hD ?_
  have e : (atKey xs ks).isSome = (f ks).isSome := by
    have := hf ks
    cases q : f ks with
    | none => rw [q] at this; rw [this]; rfl
    | some n => rw [q] at this; obtain ⟨_, _, e⟩ := this; rw [e]; rfl
  rw [e]
  exact h _
theorem tget_N {f : List Atom → Option Nat} {o : Obj} {q n : Nat} {ks : List Atom} {a : Addr} {us : List Value} {c2 : Nat} {value slice : PySem.Expr} {Q : Value → Shared → Prop} (N : News h₀ L s.heap news) (hm : (d, o) ∈ news) (hd : TDict w news o f q) (hk : (a, tupO us c2) ∈ news) (hi : ItemsAre (atomKind w) ks us)
    (hv : f ks = some n) (hu : A.units + 1 < cLine) (h : ∀ t tk, Q (.int (n : Int) t) { s with toks := tk })
    (hs : subscripted slice false (.ref d) (.ref a) = operate [.ref d, .ref a] (getItem (.ref d) (.ref a)) := by with_unfolding_all rfl) :
    wpAny (model PG w) A (subscriptTail value slice (.ref d) (.ref a)) Q E s := by
  refine bc fun z9 => ?_
  refine ex1 (TDict.at N hm hd) fun xs h9 => ?_; refine el3 h9 fun hD hq hf => ?_; clear h9
  refine z9 ?_; clear z9; try k_unmd
  have e := hf ks
  rw [hv] at e
  refine bc fun z9 => ?_
  refine ex2 e fun b t e => ?_
  refine z9 ?_; clear z9; try k_unmd
  exact tail_any hD.typeIs slot_dict_getitem.lookup (wpAny_getItem_heap (knd := tupKind w) hu (tkey N hk hi) hD e (h t _)) hs
theorem exact_dict {o : Obj} {es : Array DictEntry} {ep : Nat} (h : o.ExactDict) (hd : o.data = .dict es ep) : o = { cls := .type "dict", data := .dict es ep } := by
  refine bc fun z9 => ?_
  obtain ⟨c, d, dt, sl⟩ := o; try clear o
  refine el3 h fun h1 h2 h3 => ?_; try clear h
  refine z9 ?_; clear z9; try k_unmd
  simp only at h1 h2 h3 hd
  subst h1 h2 h3 hd
  rfl
theorem tdict_put {f : List Atom → Option Nat} {o' : Obj} {q n : Nat} {ks : List Atom} {a : Addr} {us : List Value} {c2 : Nat} {t : Tok} {news' : Led} {h' : Heap} {xs : List (List Atom × Addr × Value)}
    (g : Pt r d reg news news') (hx3 : ∀ x ∈ xs, ∃ vs n, (x.2.1, tupO vs n) ∈ news ∧ ItemsAre (atomKind w) x.1 vs) (hq : xs.length = q)
    (hf : ∀ k, match f k with | none => atKey xs k = none | some n => ∃ a t, atKey xs k = some (a, .int (n : Int) t)) (hn : f ks = none) (hk : (a, tupO us c2) ∈ news) (hi : ItemsAre (atomKind w) ks us)
    (hD : h'.DictOfH (tupKind w) d (storedH xs ks a (.int (n : Int) t))) (ho : h'.get? d = some o') : TDict w news' o' (fun k => if k = ks then some n else f k) (q + 1) := by
  have hno : atKey xs ks = none := by have := hf ks; rw [hn] at this; exact this
  rw [storedH_new hno] at hD
  refine bc fun z9 => ?_
  refine ex3 hD fun o₂ es ep h9 => ?_; refine el6 h9 fun ho₂ hc hd he _ hnd => ?_; clear h9; try clear hD
  refine z9 ?_; clear z9; try k_unmd
  rw [ho] at ho₂
  cases ho₂
  refine ⟨xs ++ [(ks, a, .int (n : Int) t)], es, ep, exact_dict hc hd, he, fun x hx => ?_, hnd, by simp [hq], fun k => ?_⟩
  · rcases List.mem_append.mp hx with hx | hx
    · obtain ⟨vs, n, h1, h2⟩ := hx3 x hx
      exact ⟨vs, n, g.tup h1, h2⟩
    · obtain rfl := List.mem_singleton.mp hx
      exact ⟨us, c2, g.tup hk, hi⟩
  · have e : atKey (xs ++ [(ks, a, .int (n : Int) t)]) k = if k = ks then some (a, .int (n : Int) t) else atKey xs k := by
      unfold atKey at hno ⊢
      rw [List.find?_append]
      by_cases e : k = ks
      · subst e
        rw [if_pos rfl]
        have h1 : xs.find? (fun x => decide (x.1 = k)) = none := by simpa using hno
        rw [h1]; simp
      · rw [if_neg e]
        have e' : ¬ ks = k := fun q => e q.symm
        simp [e']
    rw [e]
    dsimp only
    by_cases e2 : k = ks
    · rw [if_pos e2, if_pos e2]; exact ⟨_, _, rfl⟩
    · rw [if_neg e2, if_neg e2]; exact hf k
theorem tset_N {f : List Atom → Option Nat} {o : Obj} {q n : Nat} {ks : List Atom} {a : Addr} {us : List Value} {c2 : Nat} {t : Tok} {Q : Unit → Shared → Prop} (F : Fr h₀ L s.heap m) (N : News h₀ L s.heap news) (hm : (d, o) ∈ news) (hr : reg d = r) (hd : TDict w news o f q) (hk : (a, tupO us c2) ∈ news) (hi : ItemsAre (atomKind w) ks us)
    (hn : f ks = none) (hz : q ≤ sizeLine) (hu : A.units + 1 < cLine)
    (h : ∀ h' news' o' tk, Fr h₀ L h' m → News h₀ L h' news' → Pt r d reg news news' → (d, o') ∈ news' → TDict w news' o' (fun k => if k = ks then some n else f k) (q + 1) → Q () { s with heap := h', toks := tk }) :
    wpAny (model PG w) A (setItem (.ref d) (.ref a) (.int (n : Int) t)) Q E s := by
  have hdc : o.cls = .type "dict" := by obtain ⟨_, _, _, rfl, _⟩ := hd; rfl
  refine bc fun z9 => ?_
  refine ex1 (TDict.at N hm hd) fun xs h9 => ?_; refine el3 h9 fun hD hq hf => ?_; clear h9
  refine ex3 hd fun xs' es ep h9 => ?_; refine el6 h9 fun e1 e2 e3 e4 e5 e6 => ?_; clear h9; try clear hd
  refine z9 ?_; clear z9; try k_unmd
  refine wpAny_setItem_heap (hsz := by omega) (knd := tupKind w) hu (tkey N hk hi) (xs := xs') ⟨_, es, ep, N.get hm, by rw [e1]; exact ⟨rfl, rfl, rfl⟩, by rw [e1], e2, fun x hx => ?_, e4⟩ fun h' hD' hs => ?_
  · obtain ⟨vs, n, h1, h2⟩ := e3 x hx
    exact tkey N h1 h2
  · obtain ⟨o', es', ep', ho', _⟩ := id hD'
    have g := gr_put (o' := o') (reg := reg) N hm (not_fixed_dict hdc) hr
    have z := N (d, o) hm
    exact h h' _ o' _ (F.change hs z.2.1 z.2.2) (news_set (pre := []) (o := o) (led_split N hm) (fun _ h => nomatch h) off_others hs ho') g (.head _) (tdict_put g e3 e5 e6 hn hk hi hD' ho')
theorem setdef_heap {K : Type} [DecidableEq K] {knd : HeapKind PG w K} {a : Addr} {xs : List (K × Addr × Value)} {k : K} {v : Value} {Q : Value → Shared → Prop} (hu : knd.room A) (hkey : knd.is s.heap k a) (hm : s.heap.DictOfH knd d xs)
    (hthere : ∀ p, atKey xs k = some p → Q p.2 { s with toks := s.toks + knd.draws k })
    (hnew : atKey xs k = none → ∀ h', h'.DictOfH knd d (storedH xs k a v) → Heap.SameBut d s.heap h' → Q v { s with heap := h', toks := s.toks + knd.draws k })
    (hsz : xs.length ≤ sizeLine) :
    wpAny (model PG w) A (dictSetDefault d (.ref a) v) Q E s := by
  refine bc fun z9 => ?_
  refine ex3 hm fun o es ep h9 => ?_; refine el6 h9 fun ho hc hd he his hn => ?_; clear h9; try clear hm
  refine z9 ?_; clear z9; try k_unmd
  unfold dictSetDefault
  try with_reducible refine wpAny_holding ?_
  refine wpAny_bind (knd.pyHash hu hkey ?_)
  refine wpAny_bind (wpAny_dictFind_heap (s := { s with toks := s.toks + knd.draws k }) hu hkey ho hd he his hn ?_ ?_)
  · intro hno
    have hnot : k ∉ xs.map (·.1) := not_mem_keys_of_get hno
    refine wpAny_bind (wpAny_rule (wpAny_bind (wpAny_updateDictKeys (hz := by have e := size_of_entries he; omega) (s := { s with toks := s.toks + knd.draws k }) ho hd (wpAny_pure (hnew (atKey_none_of_get hno) _ ⟨_, _, ep + 1, Heap.get?_update_self _ ho (Obj.isFreed_of_dict (Obj.data_mapDictKeys hd _)),
      hc.mapDictKeys _, Obj.data_mapDictKeys hd _, ?_, ?_, ?_⟩ (Heap.SameBut.update ..))))))
    · rw [storedH_new (atKey_none_of_get hno)]
      simp [he, entryOfKey]
    · rw [storedH_new (atKey_none_of_get hno)]
      intro x hx
      rcases List.mem_append.mp hx with hx | hx
      · exact knd.keeps (his x hx) ho hd (Heap.SameBut.update ..)
      · simp only [List.mem_singleton] at hx
        subst hx
        exact knd.keeps hkey ho hd (Heap.SameBut.update ..)
    · rw [storedH_new (atKey_none_of_get hno)]
      rw [List.map_append, List.nodup_append]
      refine ⟨hn, by simp, ?_⟩
      intro x hx y hy
      simp only [List.map_cons, List.map_nil, List.mem_singleton] at hy
      subst hy
      exact fun e => hnot (e ▸ hx)
  · intro j p hj
    refine wpAny_bind (wpAny_dictEntries (s := { s with toks := s.toks + knd.draws k }) ho hd ?_)
    rw [entry_at he j, hj]
    exact wpAny_bind (wpAny_rule (wpAny_pure (hthere p (atKey_of_get hn hj))))
theorem tdef_N {f : List Atom → Option Nat} {o : Obj} {q n : Nat} {ks : List Atom} {a : Addr} {us : List Value} {c2 : Nat} {t : Tok} {Q : Value → Shared → Prop} (F : Fr h₀ L s.heap m) (N : News h₀ L s.heap news) (hm : (d, o) ∈ news) (hr : reg d = r) (hd : TDict w news o f q) (hk : (a, tupO us c2) ∈ news) (hi : ItemsAre (atomKind w) ks us)
    (lo : (d == sysModules) = false) (hz : q ≤ sizeLine) (hu : A.units + 1 < cLine)
    (hthere : ∀ v t tk, f ks = some v → Q (.int (v : Int) t) { s with toks := tk })
    (hnew : f ks = none → ∀ h' news' o' tk, Fr h₀ L h' m → News h₀ L h' news' → Pt r d reg news news' → (d, o') ∈ news' → TDict w news' o' (fun k => if k = ks then some n else f k) (q + 1) → Q (.int (n : Int) t) { s with heap := h', toks := tk }) :
    wpAny (model PG w) A (call (.builtin "dict.setdefault") [.ref d, .ref a, .int (n : Int) t]) Q E s := by
  have hdc : o.cls = .type "dict" := by obtain ⟨_, _, _, rfl, _⟩ := hd; rfl
  refine bc fun z9 => ?_
  refine ex3 hd fun xs' es ep h9 => ?_; refine el6 h9 fun e1 e2 e3 e4 e5 e6 => ?_; clear h9; try clear hd
  refine z9 ?_; clear z9; try k_unmd
  have hD : s.heap.DictOfH (tupKind w) d xs' := ⟨_, es, ep, N.get hm, by rw [e1]; exact ⟨rfl, rfl, rfl⟩, by rw [e1], e2, fun x hx => by
    refine bc fun z9 => ?_
    refine ex2 (e3 x hx) fun vs n h9 => ?_; refine el2 h9 fun h1 h2 => ?_; clear h9
    refine z9 ?_; clear z9; try k_unmd
    exact tkey N h1 h2, e4⟩
  refine wpAny_call (codeAny_call_builtin PySem.F.slot_dict_setdefault.plain PySem.F.entry_dict_setdefault (PySem.F.slot_dict_setdefault.check _ _ _ _ _ _ _ _ hD.typeIs (PySem.F.args_dict_setdefault_3 _ _ _) ?_))
  unfold Builtin.«dict.setdefault»
  refine wpAny_bind ?_
  unfold Builtin.Dict.keyAndDefault
  refine wpAny_bind (wpAny_notOrdered_dict hD.typeIs ?_)
  show wpAny _ _ (pure (d, Value.ref a, some (Value.int (n : Int) t))) _ _ s
  refine wpAny_pure ?_
  show wpAny _ _ (if (d == sysModules) = true then _ else (dictSetDefault d (.ref a) (.int (n : Int) t) >>= _)) _ _ s
  rw [if_neg (by rw [lo]; exact Bool.false_ne_true)]
  refine wpAny_bind (setdef_heap (knd := tupKind w) hu (tkey N hk hi) hD (fun p hp => ?_) (fun hno h' hD' hs => ?_) (by omega))
  · have e := e6 ks
    cases q : f ks with
    | none => rw [q] at e; rw [e] at hp; cases hp
    | some v =>
      rw [q] at e
      refine bc fun z9 => ?_
      refine ex2 e fun b t' e => ?_
      refine z9 ?_; clear z9; try k_unmd
      rw [e] at hp
      cases hp
      exact wpAny_pure (hthere v t' _ q)
  · obtain ⟨o', es', ep', ho', _⟩ := id hD'
    have g := gr_put (o' := o') (reg := reg) N hm (not_fixed_dict hdc) hr
    have z := N (d, o) hm
    have hn : f ks = none := by
      have e := e6 ks
      cases q : f ks with
      | none => rfl
      | some v => rw [q] at e; obtain ⟨_, _, e⟩ := e; rw [e] at hno; cases hno
    exact wpAny_pure (hnew hn h' _ o' _ (F.change hs z.2.1 z.2.2) (news_set (pre := []) (o := o) (led_split N hm) (fun _ h => nomatch h) off_others hs ho') g (.head _) (tdict_put g e3 e5 e6 hn hk hi hD' ho'))
end
end
section
noncomputable abbrev Node := Str × List Nat
noncomputable def nkey (n : Node) : List Atom := .inl n.1 :: n.2.map fun (k : Nat) => .inr (k : Int)
inductive Rsn where
  | told
  | rule (x y : Nat)
inductive Row where
  | add (op : Str) (kids : List Nat)
  | same (a b : Nat) (r : Rsn)
  | settle
noncomputable def natD (k : Nat) : PyData := .int (k : Int)
noncomputable def sD (x : String) : PyData := .str (Str.ofString x)
noncomputable def Rsn.dat : Rsn → PyData
  | .told => .tuple [sD "told", sD "t1"]
  | .rule x y => .tuple [sD "rule", sD "r", .tuple [.tuple [sD "?x", natD x], .tuple [sD "?y", natD y]]]
noncomputable def Row.dat : Row → PyData
  | .add op kids => .tuple [sD "add", .str op, .tuple (kids.map natD)]
  | .same a b r => .tuple [sD "same", natD a, natD b, r.dat]
  | .settle => .tuple [sD "settle"]
noncomputable def ndat (n : Node) : PyData := .tuple (.str n.1 :: n.2.map natD)
theorem ndat_eq (n : Node) : ndat n = .tuple ((nkey n).map atomD) := by
  simp [ndat, nkey, atomD, natD, Function.comp_def]
structure Hs where
  nodes : List Node := []
  up : List Nat := []
  nE : Nat := 0
  known : List Atom → Option Nat := fun _ => none
  kc : Nat := 0
  par : Nat → List Nat := fun _ => []
  wait : List Nat := []
  rows : List Row := []
noncomputable def idx : List Node → List Atom → Option Nat
  | [], _ => none
  | n :: r, k => if nkey n = k then some 0 else (idx r k).map (· + 1)
theorem idx_snoc : ∀ {nodes : List Node} {n : Node}, idx nodes (nkey n) = none → idx (nodes ++ [n]) = fun k => if k = nkey n then some nodes.length else idx nodes k
  | [], n, _ => by
    funext k
    by_cases e : k = nkey n
    · simp [idx, e]
    · simp [idx, e, Ne.symm e]
  | p :: r, n, h => by
    have hp : ¬ nkey p = nkey n := fun e => by simp [idx, e] at h
    have hr : idx r (nkey n) = none := by simpa [idx, hp] using h
    funext k
    have ih := congrFun (idx_snoc hr) k
    simp only [List.cons_append, idx, ih, List.length_cons]
    by_cases e : k = nkey n
    · subst e; simp [hp]
    · simp only [if_neg e]
theorem idx_lt : ∀ {nodes : List Node} {k : List Atom} {i : Nat}, idx nodes k = some i → i < nodes.length
  | [], _, _, h => by simp [idx] at h
  | p :: r, k, i, h => by
    unfold idx at h
    split at h
    · cases h; simp
    · obtain ⟨j, hj, rfl⟩ := Option.map_eq_some_iff.mp h
      have := idx_lt hj
      simp; omega
theorem getD_set_ne {up : List Nat} {g k i : Nat} (h : g ≠ i) : (up.set g k).getD i 0 = up.getD i 0 := by
  simp [List.getD_eq_getElem?_getD, List.getElem?_set, h]
theorem getD_set_eq {up : List Nat} {g k : Nat} (h : g < up.length) : (up.set g k).getD g 0 = k := by
  simp [List.getD_eq_getElem?_getD, List.getElem?_set, h]
theorem getD_snoc_lt {up : List Nat} {x i : Nat} (h : i < up.length) : (up ++ [x]).getD i 0 = up.getD i 0 := by
  simp [List.getD_eq_getElem?_getD, List.getElem?_append_left h]
theorem getD_snoc_eq {up : List Nat} {x : Nat} : (up ++ [x]).getD up.length 0 = x := by
  simp [List.getD_eq_getElem?_getD]
noncomputable def rsum (up : List Nat) (f : Nat → Nat) : Nat → Nat
  | 0 => 0
  | n + 1 => rsum up f n + if up.getD n 0 = n then f n else 0
theorem rsum_congr {up up' : List Nat} {f f' : Nat → Nat} : ∀ {n : Nat}, (∀ i < n, (if up.getD i 0 = i then f i else 0) = if up'.getD i 0 = i then f' i else 0) → rsum up f n = rsum up' f' n
  | 0, _ => rfl
  | n + 1, h => by rw [rsum, rsum, rsum_congr fun i hi => h i (Nat.lt_succ_of_lt hi), h n (Nat.lt_succ_self n)]
theorem rsum_le {up : List Nat} {f : Nat → Nat} : ∀ {n i : Nat}, i < n → up.getD i 0 = i → f i ≤ rsum up f n
  | n + 1, i, h, e => by
    rw [rsum]
    rcases Nat.lt_or_ge i n with h1 | h1
    · have := rsum_le (f := f) h1 e
      omega
    · obtain rfl : i = n := by omega
      rw [if_pos e]
      omega
theorem rsum_two {up : List Nat} {f : Nat → Nat} : ∀ {n i j : Nat}, i < n → j < n → i ≠ j → up.getD i 0 = i → up.getD j 0 = j → f i + f j ≤ rsum up f n
  | n + 1, i, j, hi, hj, hne, ei, ej => by
    rw [rsum]
    rcases Nat.lt_or_ge i n with h1 | h1
    · rcases Nat.lt_or_ge j n with h2 | h2
      · have := rsum_two (f := f) h1 h2 hne ei ej
        omega
      · obtain rfl : j = n := by omega
        have := rsum_le (f := f) h1 ei
        rw [if_pos ej]
        omega
    · obtain rfl : i = n := by omega
      have h2 : j < i := by omega
      have := rsum_le (f := f) h2 ej
      rw [if_pos ei]
      omega
theorem rsum_set {up : List Nat} {f f' : Nat → Nat} {k g c : Nat} (hkg : k < g) (ek : up.getD k 0 = k) (eg : up.getD g 0 = g) (hk : f' k + c = f k + f g) (ho : ∀ i, i ≠ k → i ≠ g → f' i = f i) :
    ∀ {n : Nat}, g < n → n ≤ up.length → rsum (up.set g k) f' n + c = rsum up f n := by
  have low : ∀ {n : Nat}, n ≤ k → n ≤ up.length → rsum (up.set g k) f' n = rsum up f n := by
    intro n h _
    refine rsum_congr fun i hi => ?_
    have e : (up.set g k).getD i 0 = up.getD i 0 := getD_set_ne (by omega)
    rw [e, ho i (by omega) (by omega)]
  have mid : ∀ {n : Nat}, k < n → n ≤ g → n ≤ up.length → rsum (up.set g k) f' n + c = rsum up f n + f g := by
    intro n
    induction n with
    | zero => intro h; omega
    | succ n ih =>
      intro h1 h2 h3
      have e : (up.set g k).getD n 0 = up.getD n 0 := getD_set_ne (by omega)
      rw [rsum, rsum, e]
      rcases Nat.lt_or_ge k n with h4 | h4
      · have := ih h4 (by omega) (by omega)
        rw [ho n (by omega) (by omega)]
        omega
      · obtain rfl : k = n := by omega
        rw [low (Nat.le_refl _) (by omega), if_pos ek, if_pos ek]
        omega
  intro n
  induction n with
  | zero => intro h; omega
  | succ n ih =>
    intro h1 h2
    rw [rsum, rsum]
    rcases Nat.lt_or_ge g n with h4 | h4
    · have := ih h4 (by omega)
      have e : (up.set g k).getD n 0 = up.getD n 0 := getD_set_ne (by omega)
      rw [e, ho n (by omega) (by omega)]
      omega
    · obtain rfl : g = n := by omega
      have e : (up.set g k).getD g 0 = k := getD_set_eq (by omega)
      have := mid hkg (Nat.le_refl _) (by omega)
      rw [e, if_neg (by omega), if_pos eg]
      omega
theorem rsum_snoc {up : List Nat} {f f' : Nat → Nat} {n x : Nat} (hn : n ≤ up.length) (h : ∀ i < n, up.getD i 0 = i → f' i = f i) : rsum (up ++ [x]) f' n = rsum up f n := by
  refine rsum_congr fun i hi => ?_
  have e : (up ++ [x]).getD i 0 = up.getD i 0 := getD_snoc_lt (by omega)
  rw [e]
  by_cases q : up.getD i 0 = i
  · rw [if_pos q, if_pos q, h i hi q]
  · rw [if_neg q, if_neg q]
structure Wup (up : List Nat) : Prop where
  le : ∀ i, up.getD i 0 ≤ i
  len : up.length ≤ 500
theorem root_root {up : List Nat} (W : Wup up) : ∀ a, up.getD (root up a) 0 = root up a := by
  intro a
  induction a using Nat.strongRecOn with
  | ind a ih =>
    rw [root]
    split
    · rename_i h; exact ih _ h
    · rename_i h
      have := W.le a
      omega
theorem look_put {x : Str} {v v' : Value} {l : List (Str × Value)} : (fun z => if z = x then some v' else List.lookup z ((x, v) :: l)) = fun z => List.lookup z ((x, v') :: l) := by
  funext z
  simp only [List.lookup]
  by_cases h : z = x
  · subst h; simp
  · rw [if_neg h, show (z == x) = false from beq_eq_false_iff_ne.mpr h]
end
section
section
variable {w : World} {A : Around} {E : Value → Shared → Prop} {s : Shared} {env : Env} {h₀ : Heap} {target : Expr} {body : List Stmt} {Q : Flow → Shared → Prop}
noncomputable def Lo (b : Addr) (reg : Reg) (news : Led) (reg' : Reg) (news' : Led) : Prop := ∀ p ∈ news, p.1 < b → p ∈ news' ∧ reg' p.1 = reg p.1
theorem Gr.lo {R reg₀ news₀ reg news reg' news' b} (g : Gr R reg₀ news₀ reg news) (hb : ∀ p ∈ news₀, p.1 < b) (l : Lo b reg news reg' news') : Gr R reg₀ news₀ reg' news' where
  keep p h n := (l p (g.keep p h n) (hb p h)).1
  fixed p h n := (l p (g.fixed p h n) (hb p h)).1
  rg p h _ := by obtain ⟨o, ho⟩ := g.here p h; exact (l _ ho (hb p h)).2.trans (g.regs p h)
  regs p h := by obtain ⟨o, ho⟩ := g.here p h; exact (l _ ho (hb p h)).2.trans (g.regs p h)
  here p h := by obtain ⟨o, ho⟩ := g.here p h; exact ⟨o, (l _ ho (hb p h)).1⟩
noncomputable def TurnEnd (h₀ : Heap) (L : Addr) (news₁ : Led) (reg₁ : Reg) (J : (Str → Option Value) → Led → Reg → Prop) (s s₃ : Shared) : Prop :=
  ∃ h' tk' m' news₂ reg₂ R, s₃ = { s with heap := h', toks := tk' } ∧ Fr h₀ L h' m' ∧ News h₀ L h' news₂ ∧ ¬ R 3 ∧ Gr R reg₁ news₁ reg₂ news₂ ∧ J m' news₂ reg₂
noncomputable def TurnPost (h₀ : Heap) (L : Addr) (news₁ : Led) (reg₁ : Reg) (J : (Str → Option Value) → Led → Reg → Prop) (s : Shared) (Q : Flow → Shared → Prop) (f : Flow) (s₃ : Shared) : Prop :=
  match f with
  | .ret v => Q (.ret v) s₃
  | .brk => Q .next s₃
  | _ => TurnEnd h₀ L news₁ reg₁ J s s₃
theorem gw_drop {news : Led} {reg : Reg} {I : Addr} {it : Obj} {ρ : Nat} {h : Heap} {L : Addr} (N : News h₀ L h news) (hm : (I, it) ∈ news) (hf : ¬ Fixed it) (hr : reg I = ρ) : Gw (fun k => k = ρ) reg news reg (others news I) where
  keep p hp n := List.mem_filter.mpr ⟨hp, by
    simp only [ne_eq, decide_eq_true_eq]
    intro e
    exact n (by rw [e]; exact hr)⟩
  fixed p hp n := List.mem_filter.mpr ⟨hp, by
    simp only [ne_eq, decide_eq_true_eq]
    intro e
    have h1 := (N p hp).1
    rw [e, (N _ hm).1] at h1
    rw [← Option.some.inj h1] at n
    exact hf n⟩
  rg _ _ _ := rfl
theorem mem_others {news : Led} {d : Addr} {p : Addr × Obj} (h : p ∈ news) (n : p.1 ≠ d) : p ∈ others news d := List.mem_filter.mpr ⟨h, by simpa using n⟩
theorem others_news {news : Led} {I L : Addr} {it : Obj} {h h₂ : Heap} {m : Str → Option Value} (F : Fr h₀ L h m) (N : News h₀ L h news) (hI : (I, it) ∈ news) (hk : ∀ b o, b ∉ [I] → h.get? b = some o → h₂.get? b = some o) :
    Fr h₀ L h₂ m ∧ News h₀ L h₂ (others news I) := by
  refine ⟨⟨?_, fun b o q => hk b o ?_ (F.keep b o q), F.above⟩, fun p hp => ?_⟩
  · obtain ⟨oL, es, ep, hL, r⟩ := F.ns
    exact ⟨oL, es, ep, hk _ _ (by simpa using (Ne.symm (N _ hI).2.1)) hL, r⟩
  · intro hb
    rw [List.mem_singleton.mp hb, (N _ hI).2.2] at q
    cases q
  · have z := N p (List.mem_filter.mp hp).1
    exact ⟨hk _ _ (by simpa using off_others p hp) z.1, z.2⟩
theorem cons_news {news : Led} {I L : Addr} {it it₂ : Obj} {h h₂ : Heap} (N : News h₀ L h news) (hI : (I, it) ∈ news) (hit : h₂.get? I = some it₂) (N₂ : News h₀ L h₂ (others news I)) : News h₀ L h₂ ((I, it₂) :: others news I) := fun p hp => by
  rcases List.mem_cons.mp hp with rfl | hp
  · exact ⟨hit, (N _ hI).2⟩
  · exact N₂ p hp
inductive FLI (h₀ : Heap) (Lc I : Addr) (n : Nat) (St : Nat → Heap → Prop) (J : Nat → (Str → Option Value) → Led → Reg → Prop) (s : Shared) : Nat → Shared → Prop
  | mk {h' : Heap} {tk : Nat} {m₁ : Str → Option Value} {news₁ : Led} {reg₁ : Reg} {it : Obj} {i : Nat} : Fr h₀ Lc h' m₁ → News h₀ Lc h' news₁ → (I, it) ∈ news₁ → reg₁ I = 3 → J i m₁ news₁ reg₁ → St i h' → i ≤ n → FLI h₀ Lc I n St J s (n + 1 - i) { s with heap := h', toks := tk }
theorem forLoop_go {R : Result → Shared → Prop} {it : Value} {orelse : List Stmt} (I : Nat → Shared → Prop)
    (turn : ∀ n s, I n s → wpAny (model PG w) A (pyNext it) (fun r s₁ => match r with
      | none => wpAny (model PG w) A (execs orelse env) (fun f s₃ => R (.ok f) s₃) (notedBy (model PG w) A env fun e s' => R (.error e) s') s₁
      | some v => wpAny (model PG w) A (letOwnedTupleGo target it v) (fun _ s₀ => wpAny (model PG w) A (assign target env v) (fun _ s₂ => wpAny (model PG w) A (execs body env) (fun f s₃ => match f with
          | .next | .cont => ∃ m, m < n ∧ I m s₃
          | .brk => R (.ok .next) s₃
          | .ret v => R (.ok (.ret v)) s₃) (notedBy (model PG w) A env fun e s' => R (.error e) s') s₂) (notedBy (model PG w) A env fun e s' => R (.error e) s') s₀) (notedBy (model PG w) A env fun e s' => R (.error e) s') s₁)
        (notedBy (model PG w) A env fun e s' => R (.error e) s') s)
    (n : Nat) (h : I n s) : codeAny (model PG w) A (.forLoop target it body orelse env) R s := by
  refine codeAny_loop' rfl I (fun n s hI => ?_) n h
  show wpAny _ _ ((forTurn target it body orelse env).onRaise (fun x => do noteFrame x env; theTreesLotGoes x)) _ _ s
  refine wpAny_noted ?_
  simp only [forTurn]
  refine wpAny_bind (wpAny_standAt (wpAny_bind (wpAny_onRaise (wpAny_mono (turn n s hI) (fun r s₁ h₁ => ?_) fun _ _ h' => wpAny_standAt h'))))
  cases r with
  | none => exact wpAny_pure (.inr ⟨rfl, codeAny_block h₁⟩)
  | some v =>
    refine wpAny_bind (wpAny_mono h₁ (fun _ s₀ h₀ => ?_) fun _ _ h' => h')
    refine wpAny_bind (wpAny_mono h₀ (fun _ s₂ h₂ => wpAny_bind (wpAny_mono h₂ (fun f s₃ h₃ => ?_) fun _ _ h' => h')) fun _ _ h' => h')
    cases f with
    | next => exact wpAny_pure (.inl ⟨rfl, h₃⟩)
    | cont => exact wpAny_pure (.inl ⟨rfl, h₃⟩)
    | brk => exact wpAny_pure h₃
    | ret v => exact wpAny_pure h₃
theorem loop_led2 {I : Addr} {fp : List Addr} {n : Nat} {P : Nat → Value → Prop} {St : Nat → Heap → Prop} {news : Led} {reg : Reg} {m : Str → Option Value} (W : Walks PG w A I fp [I] n P St)
    (J : Nat → (Str → Option Value) → Led → Reg → Prop) (hIobj : ∀ i h, St i h → ∃ it, h.get? I = some it ∧ ¬ Fixed it) (hst : St 0 s.heap) (F : Fr h₀ env.locals s.heap m) (N : News h₀ env.locals s.heap news)
    {it₀ : Obj} (hI : (I, it₀) ∈ news) (hr : reg I = 3) (hJ : J 0 m news reg)
    (hfp : ∀ b ∈ fp, b ≠ I → ∃ o, ∀ i m news reg, J i m news reg → (b, o) ∈ news)
    (hmono : ∀ i m₁ news₁ reg₁ news' reg', J i m₁ news₁ reg₁ → Gw (fun k => k = 3) reg₁ news₁ reg' news' → Lo I reg₁ news₁ reg' news' → J i m₁ news' reg')
    (turn : ∀ i v m₁ news₁ reg₁ h tk, i < n → P i v → J i m₁ news₁ reg₁ → Fr h₀ env.locals h m₁ → News h₀ env.locals h news₁ →
      wpAny (model PG w) A (assign target env v) (fun _ s₂ => wpAny (model PG w) A (execs body env) (TurnPost h₀ env.locals news₁ reg₁ (J (i + 1)) s Q) E s₂) E { s with heap := h, toks := tk })
    (done : ∀ m₁ news₁ reg₁ h tk, J n m₁ news₁ reg₁ → Fr h₀ env.locals h m₁ → News h₀ env.locals h news₁ → Q .next { s with heap := h, toks := tk })
    (hE : PassesOwn (model PG w) A env E) (hgo : ∀ (i : Nat) (v : Value) (Q' : Unit → Shared → Prop) (E' : Value → Shared → Prop) (s' : Shared), St i s'.heap → Q' () s' → wpAny (model PG w) A (letOwnedTupleGo target (.ref I) v) Q' E' s') :
    codeAny (model PG w) A (.forLoop target (.ref I) body [] env) (fun r s' => match r with | .ok f => Q f s' | .error e => cameBackBy (model PG w) A env E e s') s := by
  refine forLoop_go (FLI h₀ env.locals I n St J s) ?_ (n + 1) (FLI.mk (i := 0) F N hI hr hJ hst (Nat.zero_le _))
  intro k s' hinv
  refine bc fun z9 => ?_
  cases hinv with | @mk h' tk m₁ news₁ reg₁ it i F₁ N₁ hI₁ hr₁ hJ₁ hst₁ hi => ?_
  refine z9 ?_; clear z9
  have hget := (N₁ _ hI₁).1
  refine bc fun z9 => ?_
  refine ex1 (hIobj i h' hst₁) fun it' h9 => ?_; refine el2 h9 fun hit' hfix => ?_; clear h9
  refine z9 ?_; clear z9; try k_unmd
  have e : it = it' := Option.some.inj (hget.symm.trans hit')
  subst e
  rcases Nat.lt_or_ge i n with hlt | hge
  · refine W.item i _ _ _ hlt hst₁ fun v h₂ tk₂ hP hst₂ hk => ?_
    refine bc fun z9 => ?_
    obtain ⟨F₂, N₂⟩ := others_news F₁ N₁ hI₁ hk
    refine ex1 (hIobj _ _ hst₂) fun it₂ h9 => ?_; refine el2 h9 fun hit₂ hfix₂ => ?_; clear h9
    refine z9 ?_; clear z9; try k_unmd
    have N₃ := cons_news N₁ hI₁ hit₂ N₂
    have g := gr_put (o' := it₂) (reg := reg₁) N₁ hI₁ hfix hr₁
    have hJ₂ := hmono _ _ _ _ _ _ hJ₁ g.toGr.toGw fun p hp hlt => ⟨g.pt p hp (Nat.ne_of_lt hlt), g.regs p hp⟩
    refine hgo (i + 1) v _ _ _ hst₂ ?_
    refine wpAny_passesOwn hE (wpAny_mono (turn i v m₁ _ reg₁ h₂ tk₂ hlt hP hJ₂ F₂ N₃) (fun _ s₄ h₄ => wpAny_passesOwn hE (wpAny_mono h₄ (fun f s₃ h₃ => ?_) fun _ _ x => x)) fun _ _ x => x)
    have fin : TurnEnd h₀ env.locals ((I, it₂) :: others news₁ I) reg₁ (J (i + 1)) s s₃ → ∃ m, m < n + 1 - i ∧ FLI h₀ env.locals I n St J s m s₃ := by
      rintro ⟨h₅, tk₅, m₅, news₅, reg₅, R₅, rfl, F₅, N₅, hR₅, g₅, hJ₅⟩
      have hI₅ := g₅.at (.head _) hr₁ hR₅
      have hr₅ := g₅.reg' (o := it₂) (.head _) hr₁
      refine ⟨n + 1 - (i + 1), by omega, FLI.mk F₅ N₅ hI₅ hr₅ hJ₅ ?_ hlt⟩
      refine W.frame _ _ _ hst₂ fun b hb o q => ?_
      by_cases eb : b = I
      · subst eb
        rw [hit₂] at q
        cases q
        exact (N₅ _ hI₅).1
      · obtain ⟨ob, hob⟩ := hfp b hb eb
        have q1 := (N₃ _ (hob _ _ _ _ hJ₂)).1
        rw [q] at q1
        cases q1
        exact (N₅ _ (hob _ _ _ _ hJ₅)).1
    cases f with
    | ret v => exact h₃
    | brk => exact h₃
    | next => exact fin h₃
    | cont => exact fin h₃
  · have e : i = n := by omega
    subst e
    refine W.done _ _ _ hst₁ fun h₂ tk₂ hk => wpAny_execs_nil ?_
    obtain ⟨F₂, N₂⟩ := others_news F₁ N₁ hI₁ hk
    exact done m₁ _ reg₁ h₂ tk₂ (hmono _ _ _ _ _ _ hJ₁ (gw_drop N₁ hI₁ hfix hr₁) fun p hp hlt => ⟨mem_others hp (Nat.ne_of_lt hlt), rfl⟩) F₂ N₂
theorem loop_led {I : Addr} {fp : List Addr} {n : Nat} {P : Nat → Value → Prop} {St : Nat → Heap → Prop} {news : Led} {reg : Reg} {m : Str → Option Value} (W : Walks PG w A I fp [I] n P St)
    (J : Nat → (Str → Option Value) → Led → Reg → Prop) (hIobj : ∀ i h, St i h → ∃ it, h.get? I = some it ∧ ¬ Fixed it) (hst : St 0 s.heap) (F : Fr h₀ env.locals s.heap m) (N : News h₀ env.locals s.heap news)
    {it₀ : Obj} (hI : (I, it₀) ∈ news) (hr : reg I = 3) (hJ : J 0 m news reg)
    (hfp : ∀ b ∈ fp, b ≠ I → ∃ o, ∀ i m news reg, J i m news reg → (b, o) ∈ news)
    (hmono : ∀ i m₁ news₁ reg₁ news' reg', J i m₁ news₁ reg₁ → Gw (fun k => k = 3) reg₁ news₁ reg' news' → Lo I reg₁ news₁ reg' news' → J i m₁ news' reg')
    (turn : ∀ i v m₁ news₁ reg₁ h tk, i < n → P i v → J i m₁ news₁ reg₁ → Fr h₀ env.locals h m₁ → News h₀ env.locals h news₁ →
      wpAny (model PG w) A (assign target env v) (fun _ s₂ => wpAny (model PG w) A (execs body env) (TurnPost h₀ env.locals news₁ reg₁ (J (i + 1)) s Q) E s₂) E { s with heap := h, toks := tk })
    (done : ∀ m₁ news₁ reg₁ h tk, J n m₁ news₁ reg₁ → Fr h₀ env.locals h m₁ → News h₀ env.locals h news₁ → Q .next { s with heap := h, toks := tk })
    (hE : PassesOwn (model PG w) A env E) (ht : ∀ v, letOwnedTupleGo target (.ref I) v = pure () := by intro _; rfl) :
    codeAny (model PG w) A (.forLoop target (.ref I) body [] env) (fun r s' => match r with | .ok f => Q f s' | .error e => cameBackBy (model PG w) A env E e s') s := by
  exact loop_led2 W J hIobj hst F N hI hr hJ hfp hmono turn done hE fun i v Q' E' s' _ h => by rw [ht]; exact wpAny_pure h
theorem iter_list_led {a : Addr} {vs : List Value} {c : Nat} {news : Led} {reg : Reg} {m : Str → Option Value} (J : Nat → (Str → Option Value) → Led → Reg → Prop)
    (hh : A.handled = none) (F : Fr h₀ env.locals s.heap m) (N : News h₀ env.locals s.heap news) (hJ : J 0 m news reg)
    (hat : ∀ i m news reg, J i m news reg → (a, lisO vs c) ∈ news)
    (hmono : ∀ b i m₁ news₁ reg₁ news' reg', (∀ p ∈ news, p.1 < b) → J i m₁ news₁ reg₁ → Gw (fun k => k = 3) reg₁ news₁ reg' news' → Lo b reg₁ news₁ reg' news' → J i m₁ news' reg')
    (turn : ∀ i v m₁ news₁ reg₁ h tk, vs[i]? = some v → J i m₁ news₁ reg₁ → Fr h₀ env.locals h m₁ → News h₀ env.locals h news₁ →
      wpAny (model PG w) A (assign target env v) (fun _ s₂ => wpAny (model PG w) A (execs body env) (TurnPost h₀ env.locals news₁ reg₁ (J (i + 1)) s Q) E s₂) E { s with heap := h, toks := tk })
    (done : ∀ m₁ news₁ reg₁ h tk, J vs.length m₁ news₁ reg₁ → Fr h₀ env.locals h m₁ → News h₀ env.locals h news₁ → Q .next { s with heap := h, toks := tk })
    (hE : PassesOwn (model PG w) A env E) (ht : ∀ I v, letOwnedTupleGo target (.ref I) v = pure () := by intro _ _; rfl) :
    wpAny (model PG w) A (pyIter (.ref a)) (fun it s₂ => codeAny (model PG w) A (.forLoop target it body [] env) (fun r s' => match r with | .ok f => Q f s' | .error e => cameBackBy (model PG w) A env E e s') s₂) E s := by
  have hl : s.heap.IsList a vs.toArray := ⟨_, (N _ (hat _ _ _ _ hJ)).1, rfl, c, rfl⟩
  have hlt : a < s.heap.objs.size := Heap.lt_size (N _ (hat _ _ _ _ hJ)).1
  refine wpAny_pyIter_list hl ?_
  have W := Walks.list (prog := PG) (w := w) hh s.heap.objs.size a (Nat.ne_of_lt hlt) vs.toArray
  have hlow : ∀ p ∈ news, p.1 < s.heap.objs.size := fun p hp => Heap.lt_size (N p hp).1
  refine bc fun z9 => ?_
  obtain ⟨reg', g, hr⟩ := Gr.fresh (R := fun k => k = 3) (reg := reg) (k := 3) (o := { cls := .type "list_iterator", data := .fields #[.ref a, .int 0 0] }) hlow
  refine z9 ?_; clear z9; try k_unmd
  refine loop_led W J ?_ ?_ (F.push _) (N.push F _) (.head _) hr (hmono _ _ _ _ _ _ _ hlow hJ g.toGw fun p hp _ => ⟨.tail _ hp, g.regs p hp⟩) ?_ (hmono _ · · · · · · hlow) ?_ ?_ hE (ht _)
  · rintro i h ⟨⟨o, h1, h2, _⟩, _⟩
    exact ⟨o, h1, not_fixed_type h2 (by decide)⟩
  · exact ⟨⟨_, Heap.get?_push_size _ rfl, rfl, rfl⟩, hl.push _⟩
  · intro b hb hne
    have : b = a := by
      rcases List.mem_cons.mp hb with e | e
      · exact absurd e hne
      · exact List.mem_singleton.mp e
    subst this
    exact ⟨_, hat⟩
  · intro i v m₁ news₁ reg₁ h tk hi hP hJ₁ F₁ N₁
    exact turn i v m₁ news₁ reg₁ h tk (by simpa using hP) hJ₁ F₁ N₁
  · intro m₁ news₁ reg₁ h tk hJ₁ F₁ N₁
    exact done m₁ news₁ reg₁ h tk (by simpa using hJ₁) F₁ N₁
theorem iter_tup_led {a : Addr} {vs : List Value} {c : Nat} {news : Led} {reg : Reg} {m : Str → Option Value} (J : Nat → (Str → Option Value) → Led → Reg → Prop)
    (hh : A.handled = none) (F : Fr h₀ env.locals s.heap m) (N : News h₀ env.locals s.heap news) (hJ : J 0 m news reg)
    (hat : ∀ i m news reg, J i m news reg → (a, tupO vs c) ∈ news)
    (hmono : ∀ b i m₁ news₁ reg₁ news' reg', (∀ p ∈ news, p.1 < b) → J i m₁ news₁ reg₁ → Gw (fun k => k = 3) reg₁ news₁ reg' news' → Lo b reg₁ news₁ reg' news' → J i m₁ news' reg')
    (turn : ∀ i v m₁ news₁ reg₁ h tk, vs[i]? = some v → J i m₁ news₁ reg₁ → Fr h₀ env.locals h m₁ → News h₀ env.locals h news₁ →
      wpAny (model PG w) A (assign target env v) (fun _ s₂ => wpAny (model PG w) A (execs body env) (TurnPost h₀ env.locals news₁ reg₁ (J (i + 1)) s Q) E s₂) E { s with heap := h, toks := tk })
    (done : ∀ m₁ news₁ reg₁ h tk, J vs.length m₁ news₁ reg₁ → Fr h₀ env.locals h m₁ → News h₀ env.locals h news₁ → Q .next { s with heap := h, toks := tk })
    (hE : PassesOwn (model PG w) A env E) (ht : ∀ I v, letOwnedTupleGo target (.ref I) v = pure () := by intro _ _; rfl) :
    wpAny (model PG w) A (pyIter (.ref a)) (fun it s₂ => codeAny (model PG w) A (.forLoop target it body [] env) (fun r s' => match r with | .ok f => Q f s' | .error e => cameBackBy (model PG w) A env E e s') s₂) E s := by
  have hl : s.heap.IsTuple a vs.toArray := ⟨_, (N _ (hat _ _ _ _ hJ)).1, rfl, c, rfl⟩
  have hlt : a < s.heap.objs.size := Heap.lt_size (N _ (hat _ _ _ _ hJ)).1
  refine wpAny_pyIter_tuple hl ?_
  have W := Walks.tuple (prog := PG) (w := w) hh s.heap.objs.size a (Nat.ne_of_lt hlt) vs.toArray
  have hlow : ∀ p ∈ news, p.1 < s.heap.objs.size := fun p hp => Heap.lt_size (N p hp).1
  refine bc fun z9 => ?_
  obtain ⟨reg', g, hr⟩ := Gr.fresh (R := fun k => k = 3) (reg := reg) (k := 3) (o := { cls := .type "tuple_iterator", data := .fields #[.ref a, .int 0 0] }) hlow
  refine z9 ?_; clear z9; try k_unmd
  refine loop_led W J ?_ ?_ (F.push _) (N.push F _) (.head _) hr (hmono _ _ _ _ _ _ _ hlow hJ g.toGw fun p hp _ => ⟨.tail _ hp, g.regs p hp⟩) ?_ (hmono _ · · · · · · hlow) ?_ ?_ hE (ht _)
  · rintro i h ⟨⟨o, h1, h2, _⟩, _⟩
    exact ⟨o, h1, not_fixed_type h2 (by decide)⟩
  · obtain ⟨o, ho, r⟩ := hl
    exact ⟨⟨_, Heap.get?_push_size _ rfl, rfl, rfl⟩, ⟨o, Heap.get?_push_of_some _ ho, r⟩⟩
  · intro b hb hne
    have : b = a := by
      rcases List.mem_cons.mp hb with e | e
      · exact absurd e hne
      · exact List.mem_singleton.mp e
    subst this
    exact ⟨_, hat⟩
  · intro i v m₁ news₁ reg₁ h tk hi hP hJ₁ F₁ N₁
    exact turn i v m₁ news₁ reg₁ h tk (by simpa using hP) hJ₁ F₁ N₁
  · intro m₁ news₁ reg₁ h tk hJ₁ F₁ N₁
    exact done m₁ news₁ reg₁ h tk (by simpa using hJ₁) F₁ N₁
theorem iter_range_led {a : Addr} {n : Nat} {t₀ u₀ v₀ : Tok} {news : Led} {reg : Reg} {m : Str → Option Value} (J : Nat → (Str → Option Value) → Led → Reg → Prop)
    (hh : A.handled = none) (hr : IsRange s.heap a 0 n 1 t₀ u₀ v₀) (hn : n < 2 ^ 30) (F : Fr h₀ env.locals s.heap m) (N : News h₀ env.locals s.heap news) (hJ : J 0 m news reg)
    (hmono : ∀ b i m₁ news₁ reg₁ news' reg', (∀ p ∈ news, p.1 < b) → J i m₁ news₁ reg₁ → Gw (fun k => k = 3) reg₁ news₁ reg' news' → Lo b reg₁ news₁ reg' news' → J i m₁ news' reg')
    (turn : ∀ i t m₁ news₁ reg₁ h tk, i < n → J i m₁ news₁ reg₁ → Fr h₀ env.locals h m₁ → News h₀ env.locals h news₁ →
      wpAny (model PG w) A (assign target env (.int (i : Int) t)) (fun _ s₂ => wpAny (model PG w) A (execs body env) (TurnPost h₀ env.locals news₁ reg₁ (J (i + 1)) s Q) E s₂) E { s with heap := h, toks := tk })
    (done : ∀ m₁ news₁ reg₁ h tk, J n m₁ news₁ reg₁ → Fr h₀ env.locals h m₁ → News h₀ env.locals h news₁ → Q .next { s with heap := h, toks := tk })
    (hE : PassesOwn (model PG w) A env E) (ht : ∀ I v, letOwnedTupleGo target (.ref I) v = pure () := by intro _ _; rfl) :
    wpAny (model PG w) A (pyIter (.ref a)) (fun it s₂ => codeAny (model PG w) A (.forLoop target it body [] env) (fun r s' => match r with | .ok f => Q f s' | .error e => cameBackBy (model PG w) A env E e s') s₂) E s := by
  have hsize : Builtin.Range.rangeSize 0 (n : Int) 1 = (n : Int) := by
    unfold Builtin.Range.rangeSize
    rcases Nat.eq_zero_or_pos n with h | h
    · subst h; simp
    · rw [if_pos (by decide), if_pos (by omega), Int.ediv_one]; omega
  refine wpAny_pyIter_range hr ?hsm ?_
  case hsm =>
    unfold Builtin.Range.small
    rw [hsize]
    have f : ∀ i : Int, -1 ≤ i → i < 2 ^ 31 → Builtin.Range.rangeFitsLong i = true := fun i h1 h2 => by
      unfold Builtin.Range.rangeFitsLong
      simp
      omega
    rw [f 0 (by omega) (by omega), f n (by omega) (by omega), f 1 (by omega) (by omega), if_pos (by decide), f _ (by omega) (by omega)]
    simp
  have W := Walks.range (prog := PG) (w := w) hh s.heap.objs.size 0 1 n
  have hlow : ∀ p ∈ news, p.1 < s.heap.objs.size := fun p hp => Heap.lt_size (N p hp).1
  refine bc fun z9 => ?_
  obtain ⟨reg', g, hr⟩ := Gr.fresh (R := fun k => k = 3) (reg := reg) (k := 3) (o := { cls := .type "range_iterator", data := .fields #[rawInt 0, rawInt (Builtin.Range.rangeSize 0 (n : Int) 1), rawInt 1] }) hlow
  refine z9 ?_; clear z9; try k_unmd
  refine loop_led W J ?_ ?_ (F.push _) (N.push F _) (.head _) hr (hmono _ _ _ _ _ _ _ hlow hJ g.toGw fun p hp _ => ⟨.tail _ hp, g.regs p hp⟩) ?_ (hmono _ · · · · · · hlow) ?_ ?_ hE (ht _)
  · intro i h h1
    exact ⟨_, h1, not_fixed_type rfl (by decide)⟩
  · show IsRangeIter _ _ _ _ _
    rw [hsize]
    simpa using Heap.get?_push_size _ rfl
  · intro b hb hne
    exact absurd (List.mem_singleton.mp hb) hne
  · rintro i v m₁ news₁ reg₁ h tk hi ⟨t, rfl⟩ hJ₁ F₁ N₁
    have e : (0 : Int) + (i : Int) * 1 = (i : Int) := by omega
    rw [e]
    exact turn i t m₁ news₁ reg₁ h tk hi hJ₁ F₁ N₁
  · intro m₁ news₁ reg₁ h tk hJ₁ F₁ N₁
    exact done m₁ news₁ reg₁ h tk hJ₁ F₁ N₁
end
end
section
section
variable {w : World} {A : Around} {E : Value → Shared → Prop} {s : Shared} {env : Env} {h₀ : Heap} {elt iter : Expr} {x : Str} {px : Pos} {scope : Scope} {cl : List (Str × Addr)} {pos : Pos} {Q : Value → Shared → Prop}
noncomputable def EltEnd (h₀ : Heap) (L : Addr) (m : Str → Option Value) (news₁ : Led) (reg₁ : Reg) (J : List Value → Led → Reg → Prop) (s : Shared) (y : Value) (s₃ : Shared) : Prop :=
  ∃ h' tk' news₂ reg₂ R, s₃ = { s with heap := h', toks := tk' } ∧ Fr h₀ L h' m ∧ News h₀ L h' news₂ ∧ ¬ R 3 ∧ Gr R reg₁ news₁ reg₂ news₂ ∧ J [y] news₂ reg₂
theorem EltEnd.mk {h₀ h' : Heap} {L : Addr} {m : Str → Option Value} {news₁ news₂ : Led} {reg₁ reg₂ : Reg} {J : List Value → Led → Reg → Prop} {s : Shared} {y : Value} {tk' : Nat} (R : Nat → Prop) (F : Fr h₀ L h' m) (N : News h₀ L h' news₂) (hR : ¬ R 3) (g : Gr R reg₁ news₁ reg₂ news₂) (j : J [y] news₂ reg₂) :
    EltEnd h₀ L m news₁ reg₁ J s y { s with heap := h', toks := tk' } := ⟨_, _, _, _, R, rfl, F, N, hR, g, j⟩
theorem ns_not_fixed {h : Heap} {C : Addr} {oC : Obj} {m : Str → Option Value} (hn : h.Ns C m) (hC : h.get? C = some oC) : ¬ Fixed oC := by
  refine bc fun z9 => ?_
  refine ex3 hn fun o es ep h9 => ?_; refine el3 h9 fun ho hd _ => ?_; clear h9; try clear hn
  refine z9 ?_; clear z9; try k_unmd
  rw [hC] at ho
  cases ho
  exact not_fixed_ns hd
theorem gw_rename {news : Led} {reg : Reg} {D : Addr} {k : Nat} (hr : reg D = 3) : Gw (fun j => j = 3) reg news (fun a => if a = D then k else reg a) news where
  keep _ h _ := h
  fixed _ h _ := h
  rg p _ n := if_neg fun e => n (by rw [e]; exact hr)
inductive CLI (h₀ : Heap) (Lc I D C : Addr) (m : Str → Option Value) (n : Nat) (St : Nat → Heap → Prop) (J : List Value → Led → Reg → Prop) (s : Shared) : Nat → Shared → Prop
  | mk {h' : Heap} {tk : Nat} {news₁ : Led} {reg₁ : Reg} {it : Obj} {ys : List Value} {c : Nat} {oC : Obj} {mC : Str → Option Value} : Fr h₀ Lc h' m → News h₀ Lc h' news₁ → (I, it) ∈ news₁ → reg₁ I = 3 → (D, lisO ys c) ∈ news₁ → reg₁ D = 3 → (C, oC) ∈ news₁ → reg₁ C = 3 → h'.Ns C mC →
      J ys news₁ reg₁ → St ys.length h' → ys.length ≤ n → CLI h₀ Lc I D C m n St J s (n + 1 - ys.length) { s with heap := h', toks := tk }
theorem comp_led {I : Addr} {fp : List Addr} {n : Nat} {P : Nat → Value → Prop} {St : Nat → Heap → Prop} {news : Led} {reg : Reg} {m : Str → Option Value} (W : Walks PG w A I fp [I] n P St)
    (J : List Value → Led → Reg → Prop) (hIobj : ∀ i h, St i h → ∃ it, h.get? I = some it ∧ ¬ Fixed it) (hst : St 0 s.heap) (F : Fr h₀ env.locals s.heap m) (N : News h₀ env.locals s.heap news)
    {it₀ : Obj} (hI : (I, it₀) ∈ news) (hr : reg I = 3) (hJ : J [] news reg)
    (hfp : ∀ b ∈ fp, b ≠ I → ∃ o, ∀ ys news reg, J ys news reg → (b, o) ∈ news)
    (hmono : ∀ ys news₁ reg₁ news' reg', J ys news₁ reg₁ → Gw (fun k => k = 3) reg₁ news₁ reg' news' → Lo I reg₁ news₁ reg' news' → J ys news' reg')
    (hn : n ≤ sizeLine) (k : Nat) (hcell : ∀ y ∈ scope.names, y.2 ≠ .cell) (hkind : scope.kind = .function) (hx : scope.names.lookup x = some .local)
    (turn : ∀ ys v C oC mC news₁ reg₁ h tk E', ys.length < n → P ys.length v → J ys news₁ reg₁ → (C, oC) ∈ news₁ → reg₁ C = 3 → h.Ns C mC → mC x = some v → Fr h₀ env.locals h m → News h₀ env.locals h news₁ →
      wpAny (model PG w) A (eval elt (compEnvC scope cl C env)) (fun y s₃ => EltEnd h₀ env.locals m news₁ reg₁ (fun y => J (ys ++ y)) s y s₃) E' { s with heap := h, toks := tk })
    (done : ∀ ys D c news₁ reg₁ h tk, ys.length = n → J ys news₁ reg₁ → (D, lisO ys c) ∈ news₁ → reg₁ D = k → I < D → Fr h₀ env.locals h m → News h₀ env.locals h news₁ → Q (.ref D) { s with heap := h, toks := tk }) :
    wpAny (model PG w) A (newList []) (fun acc s₃ => wpAny (model PG w) A (newFunctionEnv scope env.globals cl [] env.qual none .none (some env)) (fun cenv s₄ =>
      codeAny (model PG w) A (.compStart (.ListComp elt [⟨.Name x px, iter, [], 0⟩] scope pos) 0 (.ref I) acc { cenv with scope := relabel scope env }) (compPost (model PG w) A E none Q acc cenv.locals) s₄) E s₃) E s := by
  refine wpAny_newObj_type (wpAny_newFunctionEnv hcell (by intro y hy; simp at hy) (fun h₁ hns₁ hsb₁ => ?_) hkind)
  dsimp only at hns₁ hsb₁ ⊢
  generalize hH2 : s.heap.push { cls := .type "list", dict := none, data := .seq ([] : List Value).toArray } = H2 at hns₁ hsb₁ ⊢
  have hsz : H2.objs.size = s.heap.objs.size + 1 := by rw [← hH2, Heap.size_push]
  have hlow : ∀ p ∈ news, p.1 < s.heap.objs.size := fun p hp => Heap.lt_size (N p hp).1
  have hID : I < s.heap.objs.size := hlow _ hI
  refine bc fun z9 => ?_
  obtain ⟨regD, gD, rD⟩ := Gr.fresh (R := fun _ => False) (reg := reg) (k := 3) (o := lisO [] 0) hlow
  refine z9 ?_; clear z9; try k_unmd
  have F1 : Fr h₀ env.locals H2 m := hH2 ▸ F.push _
  have N1 : News h₀ env.locals H2 ((s.heap.objs.size, lisO [] 0) :: news) := hH2 ▸ N.push F _
  have hlow2 : ∀ p ∈ (s.heap.objs.size, lisO [] 0) :: news, p.1 < H2.objs.size := fun p hp => Heap.lt_size (N1 p hp).1
  refine bc fun z9 => ?_
  refine ex3 (id hns₁) fun oC es ep h9 => ?_; refine el3 h9 fun hoC hdC _ => ?_; clear h9
  obtain ⟨regC, gC, rC⟩ := Gr.fresh (R := fun _ => False) (reg := regD) (k := 3) (o := oC) hlow2
  refine z9 ?_; clear z9; try k_unmd
  have F2 : Fr h₀ env.locals h₁ m := (F1.push _).change hsb₁ (by
    have : env.locals < H2.objs.size := by
      refine bc fun z9 => ?_
      refine ex3 F1.ns fun oL _ _ h9 => ?_; refine el2 h9 fun hL _ => ?_; clear h9
      refine z9 ?_; clear z9; try k_unmd
      exact Heap.lt_size hL
    exact Nat.ne_of_gt this) (by
    cases e : h₀.get? H2.objs.size with
    | none => rfl
    | some o => exact absurd (Heap.lt_size (F1.keep _ _ e)) (Nat.lt_irrefl _))
  have N2 : News h₀ env.locals h₁ ((H2.objs.size, oC) :: (s.heap.objs.size, lisO [] 0) :: news) := fun p hp => by
    rcases List.mem_cons.mp hp with rfl | hp
    · refine ⟨hoC, ?_, ?_⟩
      · have : env.locals < H2.objs.size := by
          refine bc fun z9 => ?_
          refine ex3 F1.ns fun oL _ _ h9 => ?_; refine el2 h9 fun hL _ => ?_; clear h9
          refine z9 ?_; clear z9; try k_unmd
          exact Heap.lt_size hL
        exact Nat.ne_of_gt this
      · cases e : h₀.get? H2.objs.size with
        | none => rfl
        | some o => exact absurd (Heap.lt_size (F1.keep _ _ e)) (Nat.lt_irrefl _)
    · have z := N1 p hp
      exact ⟨(hsb₁.2 _ (Nat.ne_of_lt (hlow2 p hp))).trans (Heap.get?_push_of_some _ z.1), z.2⟩
  have hJ2 := hmono _ _ _ _ _ hJ ((gD.trans gC).mono (S := fun k => k = 3) fun _ h => h.elim).toGw fun p hp _ => ⟨.tail _ (.tail _ hp), (gD.trans gC).regs p hp⟩
  have hst₁ : St 0 h₁ := W.frame _ _ _ hst fun b _ o e => by
    have hb := Heap.lt_size e
    exact (hsb₁.2 b (by rw [hsz]; exact Nat.ne_of_lt (Nat.lt_succ_of_lt hb))).trans (Heap.get?_push_of_some _ (hH2 ▸ Heap.get?_push_of_some _ e))
  have loop : ∀ tk, codeAny (model PG w) A (.compLoop (.ListComp elt [⟨.Name x px, iter, [], 0⟩] scope pos) 0 (.ref I) (.ref s.heap.objs.size) (compEnvC scope cl H2.objs.size env))
        (compPost (model PG w) A E none Q (.ref s.heap.objs.size) H2.objs.size) { s with heap := h₁, toks := tk } := by
    intro tk₀
    have hDC : s.heap.objs.size < H2.objs.size := by rw [hsz]; exact Nat.lt_succ_self _
    generalize s.heap.objs.size = D at *
    generalize H2.objs.size = C at *
    refine codeAny_compLoop_list (CLI h₀ env.locals I D C m n St J s) ?_ (n + 1)
      (CLI.mk (ys := []) F2 N2 (.tail _ (.tail _ hI)) (gC.reg' (o := it₀) (.tail _ hI) (gD.reg' hI hr)) (.tail _ (.head _)) (gC.reg' (o := lisO [] 0) (.head _) rD) (.head _) rC hns₁ hJ2 hst₁ (Nat.zero_le _))
    intro j s' hinv
    refine bc fun z9 => ?_
    cases hinv with | @mk h' tk news₁ reg₁ it ys c oC mC F₁ N₁ hI₁ hr₁ hD₁ rD₁ hC₁ rC₁ hns hJ₁ hst' hle => ?_
    refine z9 ?_; clear z9
    have hget := (N₁ _ hI₁).1
    refine bc fun z9 => ?_
    refine ex1 (hIobj _ h' hst') fun it' h9 => ?_; refine el2 h9 fun hit' hfix => ?_; clear h9
    refine z9 ?_; clear z9; try k_unmd
    have e : it = it' := Option.some.inj (hget.symm.trans hit')
    subst e
    have hIC : I ≠ C := Nat.ne_of_lt (Nat.lt_trans hID hDC)
    have hfC := ns_not_fixed hns (N₁ _ hC₁).1
    rcases Nat.lt_or_ge ys.length n with hlt | hge
    · refine W.item _ _ _ _ hlt hst' fun v h₂ tk₂ hP hst₂ hk => ?_
      refine bc fun z9 => ?_
      obtain ⟨F₂, N₂⟩ := others_news F₁ N₁ hI₁ hk
      refine ex1 (hIobj _ _ hst₂) fun it₂ h9 => ?_; refine el2 h9 fun hit₂ hfix₂ => ?_; clear h9
      refine z9 ?_; clear z9; try k_unmd
      have N₃ := cons_news N₁ hI₁ hit₂ N₂
      have g := gr_put (o' := it₂) (reg := reg₁) N₁ hI₁ hfix hr₁
      have hJ₂ := hmono _ _ _ _ _ hJ₁ g.toGr.toGw fun p hp hlt => ⟨g.pt p hp (Nat.ne_of_lt hlt), g.regs p hp⟩
      have hC₂ := g.pt _ hC₁ hIC.symm
      have rC₂ := g.reg' hC₁ rC₁
      have hD₂ := g.pt _ hD₁ (Nat.ne_of_gt hID)
      have rD₂ := g.reg' hD₁ rD₁
      have hI₂ : (I, it₂) ∈ (I, it₂) :: others news₁ I := .head _
      have hns₂ : h₂.Ns C mC := hns.at' fun o e => hk _ o (by simpa using hIC.symm) e
      have hCL : C ≠ env.locals := (N₁ _ hC₁).2.1
      refine wpAny_assign_Name (wpAny_storeName_local (env := compEnvC scope cl C env) (lookup_relabel_local hx) hns₂ (fun h₃ hns₃ hs₃ => ?_) (by simp [compEnvC, relabel, hkind]))
      refine bc fun z9 => ?_
      obtain ⟨F₃, N₄⟩ := others_news F₂ N₃ hC₂ (h₂ := h₃) fun b o hb e => (hs₃.2 b (by simpa [compEnvC] using hb)).trans e
      refine ex3 (id hns₃) fun oC₃ _ _ h9 => ?_; refine el2 h9 fun hoC₃ _ => ?_; clear h9
      refine z9 ?_; clear z9; try k_unmd
      have N₅ := cons_news N₃ hC₂ hoC₃ N₄
      have g₃ := gr_put (o' := oC₃) N₃ hC₂ hfC rC₂
      have hJ₃ := hmono _ _ _ _ _ hJ₂ g₃.toGr.toGw fun p hp hlt => ⟨g₃.pt p hp (Nat.ne_of_lt (Nat.lt_trans hlt (Nat.lt_trans hID hDC))), g₃.regs p hp⟩
      have hD₃ := g₃.pt _ hD₂ (Nat.ne_of_lt hDC)
      have hI₃ := g₃.pt _ hI₂ hIC
      refine wpAny_mono (turn ys v C oC₃ _ _ reg₁ h₃ _ _ hlt hP hJ₃ (.head _) rC₂ hns₃ (by simp) F₃ N₅) (fun y s₃ h₃' => ?_) fun _ _ e => e
      refine bc fun z9 => ?_
      refine ex5 h₃' fun h₅ tk₅ news₅ reg₅ R₅ h9 => ?_; refine el6 h9 fun hq1 F₅ N₆ hR₅ g₅ hJ₅ => ?_; clear h9; try clear h₃'
      obtain rfl := hq1
      refine z9 ?_; clear z9; try k_unmd
      have hD₅ := g₅.at hD₃ rD₂ hR₅
      have rD₅ := g₅.reg' hD₃ rD₂
      have hI₅ := g₅.at hI₃ hr₁ hR₅
      have rI₅ := g₅.reg' hI₃ hr₁
      have hC₅ := g₅.at (.head _) rC₂ hR₅
      have rC₅ := g₅.reg' (o := oC₃) (.head _) rC₂
      refine append_N (reg := reg₅) F₅ N₆ hD₅ rD₅ (Nat.le_of_lt (Nat.lt_of_lt_of_le hlt hn)) fun h₇ news₇ F₇ N₇ g₇ m₇ => ?_
      have hI₇ := g₇.pt _ hI₅ (Nat.ne_of_lt hID)
      have hC₇ := g₇.pt _ hC₅ (Nat.ne_of_gt hDC)
      refine ⟨n + 1 - (ys ++ [y]).length, by simp; omega, CLI.mk F₇ N₇ hI₇ rI₅ m₇ rD₅ hC₇ rC₅ (hns₃.at' fun o e => ?_) ?_ ?_ (by simp; omega)⟩
      · rw [hoC₃] at e
        cases e
        exact (N₇ _ hC₇).1
      · exact hmono _ _ _ _ _ hJ₅ g₇.toGr.toGw fun p hp hlt => ⟨g₇.pt p hp (Nat.ne_of_lt (Nat.lt_trans hlt hID)), g₇.regs p hp⟩
      · rw [List.length_append, List.length_singleton]
        refine W.frame _ _ _ hst₂ fun b hb o q => ?_
        by_cases eb : b = I
        · subst eb
          rw [hit₂] at q
          cases q
          exact (N₇ _ hI₇).1
        · obtain ⟨ob, hob⟩ := hfp b hb eb
          have q1 := (N₃ _ (hob _ _ _ hJ₂)).1
          rw [q] at q1
          cases q1
          exact (N₇ _ (hob _ _ _ (hmono _ _ _ _ _ hJ₅ g₇.toGr.toGw fun p hp hlt => ⟨g₇.pt p hp (Nat.ne_of_lt (Nat.lt_trans hlt hID)), g₇.regs p hp⟩))).1
    · have e : ys.length = n := by omega
      refine W.done _ _ _ (e ▸ hst') fun h₂ tk₂ hk => ?_
      obtain ⟨F₂, N₂⟩ := others_news F₁ N₁ hI₁ hk
      have hJ₂ := hmono _ _ _ _ _ hJ₁ (gw_drop N₁ hI₁ hfix hr₁) fun p hp hlt => ⟨mem_others hp (Nat.ne_of_lt hlt), rfl⟩
      have hC₂ := mem_others hC₁ (d := I) hIC.symm
      have hD₂ := mem_others hD₁ (d := I) (Nat.ne_of_gt hID)
      refine ⟨mC, hns.at' fun o e => hk _ o (by simpa using hIC.symm) e, fun h₃ hs₃ => ?_⟩
      obtain ⟨F₃, N₃⟩ := others_news F₂ N₂ hC₂ (h₂ := h₃) fun b o hb e => (hs₃.2 b (by simpa using hb)).trans e
      have hJ₃ := hmono _ _ _ _ _ hJ₂ (gw_drop N₂ hC₂ hfC rC₁) fun p hp hlt => ⟨mem_others hp (Nat.ne_of_lt (Nat.lt_trans hlt (Nat.lt_trans hID hDC))), rfl⟩
      have hJ₄ := hmono _ _ _ _ _ hJ₃ (gw_rename (D := D) (k := k) rD₁) fun p hp hlt => ⟨hp, if_neg (Nat.ne_of_lt (Nat.lt_trans hlt hID))⟩
      exact done ys D c _ _ h₃ tk₂ e hJ₄ (mem_others hD₂ (Nat.ne_of_lt hDC)) (if_pos rfl) hID F₃ N₃
  exact codeAny_compStart_list (loop _) (W.self 0 _ _ _ hst₁ (loop _))
noncomputable def CompIt (w : World) (A : Around) (E : Value → Shared → Prop) (env : Env) (elt iter : Expr) (x : Str) (px : Pos) (scope : Scope) (cl : List (Str × Addr)) (pos : Pos) (Q : Value → Shared → Prop) (it : Value) (s : Shared) : Prop :=
  wpAny (model PG w) A (newList []) (fun acc s₃ => wpAny (model PG w) A (newFunctionEnv scope env.globals cl [] env.qual none .none (some env)) (fun cenv s₄ =>
      codeAny (model PG w) A (.compStart (.ListComp elt [⟨.Name x px, iter, [], 0⟩] scope pos) 0 it acc { cenv with scope := relabel scope env }) (compPost (model PG w) A E none Q acc cenv.locals) s₄) E s₃) E s
theorem comp_open (hclos : closureFor scope env = pure cl) (hkind : scope.kind = .function) (hnames : ∀ y ∈ scope.names, y.2 = .local → scope.names.lookup y.1 = some .local)
    (h : wpAny (model PG w) A (eval iter env) (fun xv s₁ => wpAny (model PG w) A (pyIter xv) (CompIt w A E env elt iter x px scope cl pos Q) E s₁) E s)
    (hs : ∀ x, foldedSetIterable iter env x = pure x := by intro _; rfl) : wpAny (model PG w) A (eval (.ListComp elt [⟨.Name x px, iter, [], 0⟩] scope pos) env) Q E s := by
  rw [eval_ListComp]
  exact wpAny_comprehension_free (use := none) rfl hs hclos hkind hnames h
section
variable {news : Led} {reg : Reg} {m : Str → Option Value}
theorem comp_tup {a : Addr} {vs : List Value} {c : Nat} (J : List Value → Led → Reg → Prop) (hh : A.handled = none) (F : Fr h₀ env.locals s.heap m) (N : News h₀ env.locals s.heap news) (hJ : J [] news reg)
    (hat : ∀ ys news reg, J ys news reg → (a, tupO vs c) ∈ news)
    (hmono : ∀ b ys news₁ reg₁ news' reg', (∀ p ∈ news, p.1 < b) → J ys news₁ reg₁ → Gw (fun k => k = 3) reg₁ news₁ reg' news' → Lo b reg₁ news₁ reg' news' → J ys news' reg')
    (hn : vs.length ≤ sizeLine) (k : Nat) (hcell : ∀ y ∈ scope.names, y.2 ≠ .cell) (hkind : scope.kind = .function) (hx : scope.names.lookup x = some .local)
    (turn : ∀ ys v C oC mC news₁ reg₁ h tk E', vs[ys.length]? = some v → J ys news₁ reg₁ → (C, oC) ∈ news₁ → reg₁ C = 3 → h.Ns C mC → mC x = some v → Fr h₀ env.locals h m → News h₀ env.locals h news₁ →
      wpAny (model PG w) A (eval elt (compEnvC scope cl C env)) (fun y s₃ => EltEnd h₀ env.locals m news₁ reg₁ (fun y => J (ys ++ y)) s y s₃) E' { s with heap := h, toks := tk })
    (done : ∀ ys D c news₁ reg₁ h tk, ys.length = vs.length → J ys news₁ reg₁ → (D, lisO ys c) ∈ news₁ → reg₁ D = k → (∀ p ∈ news, p.1 < D) → Fr h₀ env.locals h m → News h₀ env.locals h news₁ → Q (.ref D) { s with heap := h, toks := tk }) :
    wpAny (model PG w) A (pyIter (.ref a)) (CompIt w A E env elt iter x px scope cl pos Q) E s := by
  have hl : s.heap.IsTuple a vs.toArray := ⟨_, (N _ (hat _ _ _ hJ)).1, rfl, c, rfl⟩
  have hlt : a < s.heap.objs.size := Heap.lt_size (N _ (hat _ _ _ hJ)).1
  refine wpAny_pyIter_tuple hl ?_
  have W := Walks.tuple (prog := PG) (w := w) hh s.heap.objs.size a (Nat.ne_of_lt hlt) vs.toArray
  have hlow : ∀ p ∈ news, p.1 < s.heap.objs.size := fun p hp => Heap.lt_size (N p hp).1
  refine bc fun z9 => ?_
  obtain ⟨reg', g, hr⟩ := Gr.fresh (R := fun k => k = 3) (reg := reg) (k := 3) (o := { cls := .type "tuple_iterator", data := .fields #[.ref a, .int 0 0] }) hlow
  refine z9 ?_; clear z9; try k_unmd
  refine comp_led W J ?_ ?_ (F.push _) (N.push F _) (.head _) hr (hmono _ _ _ _ _ _ hlow hJ g.toGw fun p hp _ => ⟨.tail _ hp, g.regs p hp⟩) ?_ (hmono _ · · · · · hlow) (by simpa using hn) k hcell hkind hx ?_ ?_
  · rintro i h ⟨⟨o, h1, h2, _⟩, _⟩
    exact ⟨o, h1, not_fixed_type h2 (by decide)⟩
  · obtain ⟨o, ho, r⟩ := hl
    exact ⟨⟨_, Heap.get?_push_size _ rfl, rfl, rfl⟩, ⟨o, Heap.get?_push_of_some _ ho, r⟩⟩
  · intro b hb hne
    have : b = a := by
      rcases List.mem_cons.mp hb with e | e
      · exact absurd e hne
      · exact List.mem_singleton.mp e
    subst this
    exact ⟨_, hat⟩
  · intro ys v C oC mC news₁ reg₁ h tk E' hlt hP hJ₁ hC rC hns hv F₁ N₁
    exact turn ys v C oC mC news₁ reg₁ h tk E' (by simpa using hP) hJ₁ hC rC hns hv F₁ N₁
  · intro ys D c' news₁ reg₁ h tk hl' hJ₁ hD rD hID F₁ N₁
    exact done ys D c' news₁ reg₁ h tk (by simpa using hl') hJ₁ hD rD (fun p hp => Nat.lt_trans (hlow p hp) hID) F₁ N₁
theorem comp_range {a : Addr} {n : Nat} {t₀ u₀ v₀ : Tok} (J : List Value → Led → Reg → Prop) (hh : A.handled = none) (hr : IsRange s.heap a 0 n 1 t₀ u₀ v₀) (hn2 : n < 2 ^ 30) (F : Fr h₀ env.locals s.heap m) (N : News h₀ env.locals s.heap news) (hJ : J [] news reg)
    (hmono : ∀ b ys news₁ reg₁ news' reg', (∀ p ∈ news, p.1 < b) → J ys news₁ reg₁ → Gw (fun k => k = 3) reg₁ news₁ reg' news' → Lo b reg₁ news₁ reg' news' → J ys news' reg')
    (hn : n ≤ sizeLine) (k : Nat) (hcell : ∀ y ∈ scope.names, y.2 ≠ .cell) (hkind : scope.kind = .function) (hx : scope.names.lookup x = some .local)
    (turn : ∀ ys t C oC mC news₁ reg₁ h tk E', ys.length < n → J ys news₁ reg₁ → (C, oC) ∈ news₁ → reg₁ C = 3 → h.Ns C mC → mC x = some (.int (ys.length : Int) t) → Fr h₀ env.locals h m → News h₀ env.locals h news₁ →
      wpAny (model PG w) A (eval elt (compEnvC scope cl C env)) (fun y s₃ => EltEnd h₀ env.locals m news₁ reg₁ (fun y => J (ys ++ y)) s y s₃) E' { s with heap := h, toks := tk })
    (done : ∀ ys D c news₁ reg₁ h tk, ys.length = n → J ys news₁ reg₁ → (D, lisO ys c) ∈ news₁ → reg₁ D = k → (∀ p ∈ news, p.1 < D) → Fr h₀ env.locals h m → News h₀ env.locals h news₁ → Q (.ref D) { s with heap := h, toks := tk }) :
    wpAny (model PG w) A (pyIter (.ref a)) (CompIt w A E env elt iter x px scope cl pos Q) E s := by
  have hsize : Builtin.Range.rangeSize 0 (n : Int) 1 = (n : Int) := by
    unfold Builtin.Range.rangeSize
    rcases Nat.eq_zero_or_pos n with h | h
    · subst h; simp
    · rw [if_pos (by decide), if_pos (by omega), Int.ediv_one]; omega
  refine wpAny_pyIter_range hr ?hsm ?_
  case hsm =>
    unfold Builtin.Range.small
    rw [hsize]
    have f : ∀ i : Int, -1 ≤ i → i < 2 ^ 31 → Builtin.Range.rangeFitsLong i = true := fun i h1 h2 => by
      unfold Builtin.Range.rangeFitsLong
      simp
      omega
    rw [f 0 (by omega) (by omega), f n (by omega) (by omega), f 1 (by omega) (by omega), if_pos (by decide), f _ (by omega) (by omega)]
    simp
  have W := Walks.range (prog := PG) (w := w) hh s.heap.objs.size 0 1 n
  have hlow : ∀ p ∈ news, p.1 < s.heap.objs.size := fun p hp => Heap.lt_size (N p hp).1
  refine bc fun z9 => ?_
  obtain ⟨reg', g, hr⟩ := Gr.fresh (R := fun k => k = 3) (reg := reg) (k := 3) (o := { cls := .type "range_iterator", data := .fields #[rawInt 0, rawInt (Builtin.Range.rangeSize 0 (n : Int) 1), rawInt 1] }) hlow
  refine z9 ?_; clear z9; try k_unmd
  refine comp_led W J ?_ ?_ (F.push _) (N.push F _) (.head _) hr (hmono _ _ _ _ _ _ hlow hJ g.toGw fun p hp _ => ⟨.tail _ hp, g.regs p hp⟩) ?_ (hmono _ · · · · · hlow) hn k hcell hkind hx ?_ ?_
  · intro i h h1
    exact ⟨_, h1, not_fixed_type rfl (by decide)⟩
  · show IsRangeIter _ _ _ _ _
    rw [hsize]
    simpa using Heap.get?_push_size _ rfl
  · intro b hb hne
    exact absurd (List.mem_singleton.mp hb) hne
  · rintro ys v C oC mC news₁ reg₁ h tk E' hlt ⟨t, rfl⟩ hJ₁ hC rC hns hv F₁ N₁
    have e : (0 : Int) + (ys.length : Int) * 1 = (ys.length : Int) := by omega
    rw [e] at hv
    exact turn ys t C oC mC news₁ reg₁ h tk E' hlt hJ₁ hC rC hns hv F₁ N₁
  · intro ys D c' news₁ reg₁ h tk hl' hJ₁ hD rD hID F₁ N₁
    exact done ys D c' news₁ reg₁ h tk hl' hJ₁ hD rD (fun p hp => Nat.lt_trans (hlow p hp) hID) F₁ N₁
end
end
end
section
section
variable {w : World} {A : Around} {E : Value → Shared → Prop} {s : Shared} {h₀ : Heap} {L : Addr} {m : Str → Option Value} {news : Led} {reg : Reg} {c : Nat} {vs : List Value}
theorem tup_is {t : Addr} (N : News h₀ L s.heap news) (hm : (t, tupO vs c) ∈ news) : IsTup s.heap t vs.toArray := ⟨_, N.get hm, rfl, c, rfl⟩
theorem titem_at {value slice : Expr} {t : Addr} {n : Nat} {u : Tok} {v : Value} {Q : Value → Shared → Prop} (N : News h₀ L s.heap news) (hm : (t, tupO vs c) ∈ news) (hx : vs[n]? = some v) (hn : n < 2 ^ 62) (h : Q v s)
    (hs : subscripted slice false (.ref t) (.int n u) = operate [.ref t, .int n u] (getItem (.ref t) (.int n u)) := by with_unfolding_all rfl) (hg : ∀ r, letTemporaryGo value (.ref t) r = pure () := by intro _; with_unfolding_all rfl) :
    wpAny (model PG w) A (subscriptTail value slice (.ref t) (.int n u)) Q E s := by
  have hl : n < vs.length := by
    rcases Nat.lt_or_ge n vs.length with h | h
    · exact h
    · rw [List.getElem?_eq_none h] at hx; cases hx
  refine item_tupleL (j := n) (tup_is N hm) (by omega) (by omega) ?_ hx h hs hg
  unfold seqIndex?
  simp
  omega
theorem tslice_N {value slice : Expr} {t : Addr} {v : Value} {u : Tok} {Q : Value → Shared → Prop} {H : Heap} {gn : Array GenState} {dr : Drawn} {tk : Nat} {os : OsState} (F : Fr h₀ L H m) (N : News h₀ L H news) (hm : (t, tupO (v :: vs) c) ∈ news) (hz : vs.length < sizeLine)
    (h : ∀ D h', Fr h₀ L h' m → News h₀ L h' ((D, tupO vs 0) :: news) → (∀ p ∈ news, p.1 < D) → Q (.ref D) { heap := h', gens := gn, drawn := dr, toks := tk, os := os })
    (hs : subscripted slice false (.ref t) (.ref H.objs.size) = operate [.ref H.objs.size, .ref t] (getItem (.ref t) (.ref H.objs.size)) := by with_unfolding_all rfl)
    (hg : ∀ r, letTemporaryGo value (.ref t) r = pure () := by intro _; with_unfolding_all rfl) :
    wpAny (model PG w) A (subscriptTail value slice (.ref t) (.ref H.objs.size)) Q E { heap := H.push { cls := .type "slice", data := .fields #[.int 1 u, .none, .none] }, gens := gn, drawn := dr, toks := tk, os := os } := by
  refine slice_tuple_from (s := ⟨H, gn, dr, tk, os⟩) (a := 1) F N (tup_is (s := ⟨H, gn, dr, tk, os⟩) N hm) (Nat.le_refl _) (by simp) (fun h' F' N' => ?_) hs hg (by simp; omega)
  exact h _ h' F' (by simpa [tupO] using N') fun p hp => Nat.lt_succ_of_lt (Heap.lt_size (N p hp).1)
theorem cname_loc {env : Env} {scope : Scope} {cl : List (Str × Addr)} {C : Addr} {x : Str} {pos : Pos} {v : Value} {mC : Str → Option Value} {Q : Value → Shared → Prop} (hns : s.heap.Ns C mC) (hv : mC x = some v) (h : Q v s)
    (hk : (compEnvC scope cl C env).scope.kind = .function) (hl : (compEnvC scope cl C env).kindOf x = some .local) (hd : (x == ("__debug__" : Str)) = false) :
    wpAny (model PG w) A (eval (.Name x pos) (compEnvC scope cl C env)) Q E s := wpAny_Name (wpAny_loadName_local hk hl hns hv h) hd
theorem cname_cell {env : Env} {scope : Scope} {cl : List (Str × Addr)} {C c : Addr} {x : Str} {pos : Pos} {v : Value} {o : Obj} {Q : Value → Shared → Prop} (N : News h₀ L s.heap news) (hm : (c, o) ∈ news) (hd' : o.data = .cell (some v)) (h : Q v s)
    (hc : cl.lookup x = some c) (hk : (compEnvC scope cl C env).scope.kind = .function) (hl : (compEnvC scope cl C env).kindOf x = some .cell) (hd : (x == ("__debug__" : Str)) = false) :
    wpAny (model PG w) A (eval (.Name x pos) (compEnvC scope cl C env)) Q E s := wpAny_Name (wpAny_loadName_cell hk hl hc ⟨_, N.get hm, hd'⟩ h) hd
theorem tupof_N {l : Addr} {Q : Value → Shared → Prop} (F : Fr h₀ L s.heap m) (N : News h₀ L s.heap news) (hm : (l, lisO vs c) ∈ news) (hz : vs.length ≤ 16384)
    (h : ∀ D h', Fr h₀ L h' m → News h₀ L h' ((D, tupO vs 0) :: news) → (∀ p ∈ news, p.1 < D) → Q (.ref D) { s with heap := h' }) : wpAny (model PG w) A (call (.type "tuple") [.ref l]) Q E s :=
  kde_tupleOf F N (items := vs.toArray) ⟨_, N.get hm, rfl, c, rfl⟩ (by simpa using hz) rfl h
theorem tadd_N {a b : Addr} {v : Value} {us : List Value} {c2 : Nat} {Q : Value → Shared → Prop} (F : Fr h₀ L s.heap m) (N : News h₀ L s.heap news) (h1 : (a, tupO (v :: vs) c) ∈ news) (h2 : (b, tupO us c2) ∈ news) (hz : vs.length + us.length ≤ 16000)
    (h : ∀ r c' h' news', Fr h₀ L h' m → News h₀ L h' news' → (∀ p ∈ news, p ∈ news') → (r, tupO (v :: vs ++ us) c') ∈ news' → Q (.ref r) { s with heap := h' }) : wpAny (model PG w) A (binaryOp .Add (.ref a) (.ref b)) Q E s := by
  cases us with
  | nil => exact kde_addT1 F N (tup_is N h1) (tup_is N h2) (by simp) rfl (by simp; omega) (h a c s.heap news F N (fun _ h => h) (by simpa using h1))
  | cons u us => exact kde_addT F N (tup_is N h1) (tup_is N h2) (by simp) (by simp) (by simp at hz ⊢; omega) (zs := v :: vs ++ u :: us) (by simp) fun D h' F' N' _ => h D 0 h' _ F' N' (fun _ h => .tail _ h) (.head _)
theorem ladd_N {a b : Addr} {us : List Value} {c2 : Nat} {Q : Value → Shared → Prop} (F : Fr h₀ L s.heap m) (N : News h₀ L s.heap news) (h1 : (a, lisO vs c) ∈ news) (h2 : (b, lisO us c2) ∈ news) (hz : vs.length + us.length ≤ sizeLine)
    (h : ∀ D h', Fr h₀ L h' m → News h₀ L h' ((D, lisO (vs ++ us) 0) :: news) → (∀ p ∈ news, p.1 < D) → Q (.ref D) { s with heap := h' }) : wpAny (model PG w) A (binaryOp .Add (.ref a) (.ref b)) Q E s :=
  kmk_add_lit F N (its := vs.toArray) (its2 := us.toArray) ⟨_, N.get h1, rfl, c, rfl⟩ ⟨_, N.get h2, rfl, c2, rfl⟩ (by simp) h (by simpa using hz)
theorem dmeth_N {name : Str} {id : String} {pl : Sem Bool} {d : Addr} {o : Obj} {f : Int → Option Value} {q : Nat} {Q : Value × List Value → Shared → Prop} (slot : Slot "dict" name id) (ty : typeOf (.builtin id) = pure (.type "method_descriptor")) (N : News h₀ L s.heap news) (hm : (d, o) ∈ news) (hd : IDict w o f q) (h : Q (.builtin id, [.ref d]) s) :
    wpAny (model PG w) A (getMethod (.ref d) name pl) Q E s := by
  refine bc fun z9 => ?_
  refine ex1 hd fun kvs h9 => ?_; refine el2 h9 fun hk _ => ?_; clear h9; try clear hd
  refine z9 ?_; clear z9; try k_unmd
  exact kob_method slot ty N hm hk h
end
end
section
theorem rg_big {o k n : Nat} (ho : 15 ≤ o) (h : Nat.ble k 14 = true) : ¬ (k = o + n) := fun e => by
  have := Nat.le_of_ble_eq_true h
  omega
theorem rg_bigh {o k n : Nat} (ho : 15 ≤ o) (h : Nat.ble k 14 = true) : ¬ (o + n = k) := fun e => rg_big ho h e.symm
theorem rs_big {o k : Nat} {l : List Nat} (ho : 15 ≤ o) (h : Nat.ble k 14 = true) : ¬ RS o l k := fun ⟨_, _, e⟩ => rg_big ho h e
theorem off_big {o k : Nat} {l : List Nat} (ho : 15 ≤ o) (h : Nat.ble k 14 = true) : Off (fun j => j = k) o l := fun _ _ => rg_bigh ho h
theorem TurnEnd.mk {h₀ h' : Heap} {L : Addr} {m' : Str → Option Value} {news₁ news₂ : Led} {reg₁ reg₂ : Reg} {J : (Str → Option Value) → Led → Reg → Prop} {s : Shared} {tk' : Nat} (R : Nat → Prop) (F : Fr h₀ L h' m') (N : News h₀ L h' news₂) (hR : ¬ R 3) (g : Gr R reg₁ news₁ reg₂ news₂) (j : J m' news₂ reg₂) :
    TurnEnd h₀ L news₁ reg₁ J s { s with heap := h', toks := tk' } := ⟨_, _, _, _, _, R, rfl, F, N, hR, g, j⟩
section
variable {w : World} {A : Around} {E : Value → Shared → Prop} {s : Shared} {env : Env} {h₀ : Heap} {body : List Stmt} {Q : Flow → Shared → Prop} {x : Str} {px : Pos} {m : Str → Option Value}
noncomputable abbrev mx (x : Str) (kv : Option Value) (m : Str → Option Value) : Str → Option Value := fun z => if z = x then kv else m z
theorem mx_mx {kv kv' : Option Value} : (fun z => if z = x then kv' else mx x kv m z) = mx x kv' m := by
  funext z
  show (if z = x then kv' else if z = x then kv else m z) = if z = x then kv' else m z
  by_cases h : z = x
  · rw [if_pos h, if_pos h]
  · rw [if_neg h, if_neg h, if_neg h]
theorem mx_self : m = mx x (m x) m := by
  funext z
  show m z = if z = x then m x else m z
  by_cases h : z = x
  · rw [if_pos h, h]
  · rw [if_neg h]
noncomputable def JX (x : Str) (m : Str → Option Value) (J : Led → Reg → Prop) : (Str → Option Value) → Led → Reg → Prop := fun m₁ news reg => (∃ kv, m₁ = mx x kv m) ∧ J news reg
theorem turnX {v : Value} {kv : Option Value} {news₁ : Led} {reg₁ : Reg} {h : Heap} {tk : Nat} {J : Led → Reg → Prop} (hx : env.kindOf x = some .local) (hp : (env.scope.kind == .class || (env.scope.kind == .module && env.locals != env.globals)) = false)
    (F : Fr h₀ env.locals h (mx x kv m)) (N : News h₀ env.locals h news₁)
    (H : ∀ h' tk', Fr h₀ env.locals h' (mx x (some v) m) → News h₀ env.locals h' news₁ → wpAny (model PG w) A (execs body env) (TurnPost h₀ env.locals news₁ reg₁ (JX x m J) s Q) E { s with heap := h', toks := tk' }) :
    wpAny (model PG w) A (assign (.Name x px) env v) (fun _ s₂ => wpAny (model PG w) A (execs body env) (TurnPost h₀ env.locals news₁ reg₁ (JX x m J) s Q) E s₂) E { s with heap := h, toks := tk } := by
  refine wpAny_assign_Name (wpAny_storeName_local hx F.ns (fun h₂ hn₂ hs₂ => ?_) hp)
  rw [mx_mx] at hn₂
  exact H h₂ _ (F.set hn₂ hs₂) (N.set hs₂)
theorem iter_tup_x {a : Addr} {vs : List Value} {c : Nat} {news : Led} {reg : Reg} (J : Nat → Led → Reg → Prop)
    (hh : A.handled = none) (F : Fr h₀ env.locals s.heap m) (N : News h₀ env.locals s.heap news) (hJ : J 0 news reg) (hx : env.kindOf x = some .local) (hp : (env.scope.kind == .class || (env.scope.kind == .module && env.locals != env.globals)) = false)
    (hat : ∀ i news reg, J i news reg → (a, tupO vs c) ∈ news)
    (hmono : ∀ b i news₁ reg₁ news' reg', (∀ p ∈ news, p.1 < b) → J i news₁ reg₁ → Gw (fun k => k = 3) reg₁ news₁ reg' news' → Lo b reg₁ news₁ reg' news' → J i news' reg')
    (turn : ∀ i v news₁ reg₁ h tk, vs[i]? = some v → J i news₁ reg₁ → Fr h₀ env.locals h (mx x (some v) m) → News h₀ env.locals h news₁ →
      wpAny (model PG w) A (execs body env) (TurnPost h₀ env.locals news₁ reg₁ (JX x m (J (i + 1))) s Q) E { s with heap := h, toks := tk })
    (done : ∀ kv news₁ reg₁ h tk, J vs.length news₁ reg₁ → Fr h₀ env.locals h (mx x kv m) → News h₀ env.locals h news₁ → Q .next { s with heap := h, toks := tk })
    (hE : PassesOwn (model PG w) A env E) :
    wpAny (model PG w) A (pyIter (.ref a)) (fun it s₂ => codeAny (model PG w) A (.forLoop (.Name x px) it body [] env) (fun r s' => match r with | .ok f => Q f s' | .error e => cameBackBy (model PG w) A env E e s') s₂) E s := by
  refine iter_tup_led (fun i => JX x m (J i)) hh F N ⟨⟨_, mx_self⟩, hJ⟩ (fun i m₁ news reg h => hat i news reg h.2) (fun b i m₁ news₁ reg₁ news' reg' hb h g l => ⟨h.1, hmono b i _ _ _ _ hb h.2 g l⟩) ?_ ?_ hE (fun _ _ => rfl)
  · rintro i v m₁ news₁ reg₁ h tk hv ⟨⟨kv, rfl⟩, hJ₁⟩ F₁ N₁
    exact turnX hx hp F₁ N₁ fun h' tk' F' N' => turn i v news₁ reg₁ h' tk' hv hJ₁ F' N'
  · rintro m₁ news₁ reg₁ h tk ⟨⟨kv, rfl⟩, hJ₁⟩ F₁ N₁
    exact done kv news₁ reg₁ h tk hJ₁ F₁ N₁
theorem iter_list_x {a : Addr} {vs : List Value} {c : Nat} {news : Led} {reg : Reg} (J : Nat → Led → Reg → Prop)
    (hh : A.handled = none) (F : Fr h₀ env.locals s.heap m) (N : News h₀ env.locals s.heap news) (hJ : J 0 news reg) (hx : env.kindOf x = some .local) (hp : (env.scope.kind == .class || (env.scope.kind == .module && env.locals != env.globals)) = false)
    (hat : ∀ i news reg, J i news reg → (a, lisO vs c) ∈ news)
    (hmono : ∀ b i news₁ reg₁ news' reg', (∀ p ∈ news, p.1 < b) → J i news₁ reg₁ → Gw (fun k => k = 3) reg₁ news₁ reg' news' → Lo b reg₁ news₁ reg' news' → J i news' reg')
    (turn : ∀ i v news₁ reg₁ h tk, vs[i]? = some v → J i news₁ reg₁ → Fr h₀ env.locals h (mx x (some v) m) → News h₀ env.locals h news₁ →
      wpAny (model PG w) A (execs body env) (TurnPost h₀ env.locals news₁ reg₁ (JX x m (J (i + 1))) s Q) E { s with heap := h, toks := tk })
    (done : ∀ kv news₁ reg₁ h tk, J vs.length news₁ reg₁ → Fr h₀ env.locals h (mx x kv m) → News h₀ env.locals h news₁ → Q .next { s with heap := h, toks := tk })
    (hE : PassesOwn (model PG w) A env E) :
    wpAny (model PG w) A (pyIter (.ref a)) (fun it s₂ => codeAny (model PG w) A (.forLoop (.Name x px) it body [] env) (fun r s' => match r with | .ok f => Q f s' | .error e => cameBackBy (model PG w) A env E e s') s₂) E s := by
  refine iter_list_led (fun i => JX x m (J i)) hh F N ⟨⟨_, mx_self⟩, hJ⟩ (fun i m₁ news reg h => hat i news reg h.2) (fun b i m₁ news₁ reg₁ news' reg' hb h g l => ⟨h.1, hmono b i _ _ _ _ hb h.2 g l⟩) ?_ ?_ hE (fun _ _ => rfl)
  · rintro i v m₁ news₁ reg₁ h tk hv ⟨⟨kv, rfl⟩, hJ₁⟩ F₁ N₁
    exact turnX hx hp F₁ N₁ fun h' tk' F' N' => turn i v news₁ reg₁ h' tk' hv hJ₁ F' N'
  · rintro m₁ news₁ reg₁ h tk ⟨⟨kv, rfl⟩, hJ₁⟩ F₁ N₁
    exact done kv news₁ reg₁ h tk hJ₁ F₁ N₁
theorem iter_range_x {a : Addr} {n : Nat} {t₀ u₀ v₀ : Tok} {news : Led} {reg : Reg} (J : Nat → Led → Reg → Prop)
    (hh : A.handled = none) (hr : IsRange s.heap a 0 n 1 t₀ u₀ v₀) (hn : n < 2 ^ 30) (F : Fr h₀ env.locals s.heap m) (N : News h₀ env.locals s.heap news) (hJ : J 0 news reg) (hx : env.kindOf x = some .local) (hp : (env.scope.kind == .class || (env.scope.kind == .module && env.locals != env.globals)) = false)
    (hmono : ∀ b i news₁ reg₁ news' reg', (∀ p ∈ news, p.1 < b) → J i news₁ reg₁ → Gw (fun k => k = 3) reg₁ news₁ reg' news' → Lo b reg₁ news₁ reg' news' → J i news' reg')
    (turn : ∀ i t news₁ reg₁ h tk, i < n → J i news₁ reg₁ → Fr h₀ env.locals h (mx x (some (.int (i : Int) t)) m) → News h₀ env.locals h news₁ →
      wpAny (model PG w) A (execs body env) (TurnPost h₀ env.locals news₁ reg₁ (JX x m (J (i + 1))) s Q) E { s with heap := h, toks := tk })
    (done : ∀ kv news₁ reg₁ h tk, J n news₁ reg₁ → Fr h₀ env.locals h (mx x kv m) → News h₀ env.locals h news₁ → Q .next { s with heap := h, toks := tk })
    (hE : PassesOwn (model PG w) A env E) :
    wpAny (model PG w) A (pyIter (.ref a)) (fun it s₂ => codeAny (model PG w) A (.forLoop (.Name x px) it body [] env) (fun r s' => match r with | .ok f => Q f s' | .error e => cameBackBy (model PG w) A env E e s') s₂) E s := by
  refine iter_range_led (fun i => JX x m (J i)) hh hr hn F N ⟨⟨_, mx_self⟩, hJ⟩ (fun b i m₁ news₁ reg₁ news' reg' hb h g l => ⟨h.1, hmono b i _ _ _ _ hb h.2 g l⟩) ?_ ?_ hE (fun _ _ => rfl)
  · rintro i t m₁ news₁ reg₁ h tk hi ⟨⟨kv, rfl⟩, hJ₁⟩ F₁ N₁
    exact turnX hx hp F₁ N₁ fun h' tk' F' N' => turn i t news₁ reg₁ h' tk' hi hJ₁ F' N'
  · rintro m₁ news₁ reg₁ h tk ⟨⟨kv, rfl⟩, hJ₁⟩ F₁ N₁
    exact done kv news₁ reg₁ h tk hJ₁ F₁ N₁
end
end
section
noncomputable def bt (w : World) : Bool := w.params.followText "set-order"
noncomputable def Tb (b : Bool) (place : Array Nat) : SetTable := { mask := 7, place, dummies := #[], finger := 0, led := b, moves := 0, plain := true }
noncomputable abbrev so (es : Array (Int × Value)) (ep : Nat) (t : SetTable) : Obj := { cls := .type "set", dict := none, data := .set es ep t }
noncomputable abbrev ei (n : Int) (u : Tok) : Int × Value := (hashInt n, .int n u)
inductive SetS (w : World) : Obj → List Int → Prop
  | nil (ep : Nat) : SetS w (so #[] ep (Tb (!bt w) #[])) []
  | one (ep p : Nat) (n : Int) (u : Tok) : p < 8 → SetS w (so #[ei n u] ep (Tb (!bt w) #[p])) [n]
  | two (ep p q : Nat) (n m : Int) (u v : Tok) : p < q → q < 8 → SetS w (so #[ei n u, ei m v] ep (Tb (!bt w) #[p, q])) [n, m]
noncomputable def SetR (w : World) (o : Obj) (l : List Int) : Prop := ∃ ns, SetS w o ns ∧ ns.Perm l
theorem free0 : ∀ b : Bool, ∀ k < 64, (Tb b #[]).freeSlot (hashInt ((k : Nat) : Int)) = some (k % 8, false) := by decide +kernel
theorem free1 : ∀ b : Bool, ∀ p < 8, ∀ k < 64, (match (Tb b #[p]).freeSlot (hashInt ((k : Nat) : Int)) with | some (j, d) => decide (j < 8) && (j != p && !d) | none => false) = true := by decide +kernel
theorem lay0 {b : Bool} {k : Nat} {u : Tok} (hk : k < 64) : layNew (Tb b #[]) #[] (hashInt (k : Int)) (.int (k : Int) u) = (#[ei k u], Tb b #[k % 8], false, false) := by
  unfold layNew
  rw [free0 b k hk]
  rfl
theorem below1 (p j : Nat) : SetTable.below #[p] j = if p < j then 1 else 0 := by
  unfold SetTable.below
  simp [SetTable.below.go]
theorem lay1 {b : Bool} {p k : Nat} {n : Int} {u v : Tok} (hp : p < 8) (hk : k < 64) :
    (∃ j, p < j ∧ j < 8 ∧ layNew (Tb b #[p]) #[ei n v] (hashInt (k : Int)) (.int (k : Int) u) = (#[ei n v, ei k u], Tb b #[p, j], false, false)) ∨
    (∃ j, j < p ∧ layNew (Tb b #[p]) #[ei n v] (hashInt (k : Int)) (.int (k : Int) u) = (#[ei k u, ei n v], Tb b #[j, p], false, false)) := by
  have h := free1 b p hp k hk
  unfold layNew
  cases hf : (Tb b #[p]).freeSlot (hashInt (k : Int)) with
  | none => rw [hf] at h; cases h
  | some jd =>
    obtain ⟨j, d⟩ := jd
    rw [hf] at h
    simp only [Bool.and_eq_true, decide_eq_true_eq, bne_iff_ne, ne_eq, Bool.not_eq_true'] at h
    refine bc fun z9 => ?_
    refine el3 h fun h1 h2 hq1 => ?_; try clear h
    obtain rfl := hq1
    refine z9 ?_; clear z9; try k_unmd
    have hb := below1 p j
    rcases Nat.lt_or_ge p j with q | q
    · rw [if_pos q] at hb
      refine .inl ⟨j, q, h1, ?_⟩
      simp only [SetTable.put, Tb, hb]
      rfl
    · rw [if_neg (by omega)] at hb
      refine .inr ⟨j, by omega, ?_⟩
      simp only [SetTable.put, Tb, hb]
      rfl
section
variable {w : World} {A : Around} {E : Value → Shared → Prop} {s : Shared}
theorem SetS.ok {o : Obj} {ns : List Int} (h : SetS w o ns) : ∃ es ep t, o = so es ep t ∧ t.fits es.size = true ∧ ElemsOf (intKind PG w) es.toList ∧ es.size = ns.length ∧ (∀ n, (∃ e ∈ es.toList, (intKind PG w).is n e.2 = true) ↔ n ∈ ns) := by
  cases h with
  | nil ep => exact ⟨_, _, _, rfl, rfl, fun e he => (by simp at he), rfl, fun n => by simp⟩
  | one ep p n u hp =>
    refine ⟨_, _, _, rfl, rfl, fun e he => ?_, rfl, fun k => ?_⟩
    · simp at he; subst he
      exact ⟨⟨n, intKind_is _ _ _ _, rfl⟩, rfl⟩
    · simp [intKind, Value.isInt]
      exact ⟨Eq.symm, Eq.symm⟩
  | two ep p q n m u v hpq hq =>
    refine ⟨_, _, _, rfl, rfl, fun e he => ?_, rfl, fun k => ?_⟩
    · simp at he
      rcases he with rfl | rfl
      · exact ⟨⟨n, intKind_is _ _ _ _, rfl⟩, rfl⟩
      · exact ⟨⟨m, intKind_is _ _ _ _, rfl⟩, rfl⟩
    · simp [intKind, Value.isInt]
      exact ⟨fun h => h.imp Eq.symm Eq.symm, fun h => h.imp Eq.symm Eq.symm⟩
theorem add_S {a : Addr} {o : Obj} {l : List Int} {k : Nat} {u : Tok} {Q : Bool → Shared → Prop} (ho : s.heap.get? a = some o) (hS : SetR w o l) (hl : l.length ≤ 1 ∨ (k : Int) ∈ l) (hk : k < 64)
    (h : ∀ b h' o', Heap.SameBut a s.heap h' → h'.get? a = some o' → SetR w o' (step_dedup l k) → Q b { s with heap := h' }) :
    wpAny (model PG w) A (setAddHashed a (.int (k : Int) u) (hashInt (k : Int))) Q E s := by
  refine bc fun z9 => ?_
  refine ex1 hS fun ns h9 => ?_; refine el2 h9 fun hS hp => ?_; clear h9
  refine z9 ?_; clear z9; try k_unmd
  have hlen := hp.length_eq
  refine bc fun z9 => ?_
  refine ex3 (id hS.ok) fun es ep t h9 => ?_; refine el5 h9 fun hq2 hf hel hsz hmem => ?_; clear h9
  obtain rfl := hq2
  refine z9 ?_; clear z9; try k_unmd
  have hb : es.size < scanBound := by
    have : ns.length ≤ 2 := by cases hS <;> simp
    rw [hsz]; unfold scanBound; omega
  unfold setAddHashed setAddHashedIn
  refine wpAny_holding (wpAny_bind (wpAny_setState_of ho rfl hf ?_))
  dsimp only
  rw [byScan_of (knd := intKind PG w) rfl hb hel]
  simp only [↓reduceIte]
  unfold setAddByScan
  refine wpAny_bind ?_
  refine wpAny_bind (wpAny_rule ?_)
  refine wpAny_bind (wpAny_setScan_of (knd := intKind PG w) (k := (k : Int)) (intKind_is _ _ _ _) ho rfl hf hel ?_)
  cases hr : List.findIdx? (fun e => (intKind PG w).is (k : Int) e.2) es.toList with
  | some j =>
    dsimp only
    refine bc fun z9 => ?_
    obtain ⟨hj, hpj, _⟩ := (List.findIdx?_eq_some_iff_getElem.mp hr)
    refine z9 ?_; clear z9; try k_unmd
    have hin : (k : Int) ∈ l := hp.mem_iff.mp ((hmem k).mp ⟨es.toList[j], List.getElem_mem hj, hpj⟩)
    refine wpAny_pure (wpAny_pure ?_)
    have e : step_dedup l k = l := by unfold step_dedup; rw [if_pos (List.any_eq_true.mpr ⟨_, hin, by simp⟩)]
    have := h false s.heap _ (Heap.SameBut.refl a s.heap) ho (by rw [e]; exact ⟨ns, hS, hp⟩)
    exact this
  | none =>
    dsimp only
    have hnin : (k : Int) ∉ ns := fun hin => by
      refine bc fun z9 => ?_
      refine ex1 ((hmem k).mpr hin) fun e h9 => ?_; refine el2 h9 fun he hq => ?_; clear h9
      refine z9 ?_; clear z9; try k_unmd
      have := List.findIdx?_eq_none_iff.mp hr e he
      rw [hq] at this
      cases this
    have hnl : (k : Int) ∉ l := fun h => hnin (hp.mem_iff.mpr h)
    have e : step_dedup l k = l ++ [(k : Int)] := by
      unfold step_dedup
      rw [if_neg (fun q => by
        refine bc fun z9 => ?_
        refine ex1 (List.any_eq_true.mp q) fun x h9 => ?_; refine el2 h9 fun hx hq => ?_; clear h9
        refine z9 ?_; clear z9; try k_unmd
        exact hnl (by rw [← beq_iff_eq.mp hq]; exact hx))]
    have hl1 : l.length ≤ 1 := hl.resolve_right hnl
    have key : ∃ es' t', layNew t es (hashInt (k : Int)) (.int (k : Int) u) = (es', t', false, false) ∧ SetR w (so es' (ep + 1) t') (l ++ [(k : Int)]) ∧ t'.plain = true ∧ t'.tooFull = false ∧ es'.size ≤ 2 := by
      cases hS with
      | nil =>
        obtain rfl := List.nil_perm.mp hp
        exact ⟨_, _, lay0 hk, ⟨_, .one _ _ _ _ (Nat.mod_lt _ (by decide)), .refl _⟩, rfl, rfl, by simp⟩
      | one _ p n v hp8 =>
        obtain rfl := List.singleton_perm.mp hp
        rcases lay1 (b := !bt w) (n := n) (u := u) (v := v) hp8 hk with ⟨j, h1, h2, h3⟩ | ⟨j, h1, h3⟩
        · exact ⟨_, _, h3, ⟨_, .two _ _ _ _ _ _ _ h1 h2, .refl _⟩, rfl, rfl, by simp⟩
        · exact ⟨_, _, h3, ⟨_, .two _ _ _ _ _ _ _ h1 hp8, .swap _ _ _⟩, rfl, rfl, by simp⟩
      | two => simp at hlen; omega
    refine bc fun z9 => ?_
    refine ex2 key fun es' t' h9 => ?_; refine el5 h9 fun hL hR hpl htf hes => ?_; clear h9; try clear key
    refine z9 ?_; clear z9; try k_unmd
    rw [hL]
    dsimp only
    refine wpAny_bind (wpAny_pure ?_)
    rw [if_pos hpl, hashByValue_scannable 8 rfl]
    refine wpAny_bind (wpAny_pure ?_)
    rw [show plainKind (Value.int (k : Int) u) = true from rfl]
    simp only [↓reduceIte, htf, Bool.and_false, Bool.false_eq_true]
    refine wpAny_bind (wpAny_storeSet_of ho rfl ?_ (by rw [sizeLine_eq]; omega))
    refine wpAny_pure ?_
    dsimp only
    refine wpAny_pure (h true _ _ (Heap.SameBut.update s.heap a (Obj.putSet es' t')) (Heap.get?_update_self (Obj.putSet es' t') ho rfl) ?_)
    rw [e]
    exact hR
end
section
variable {w : World} {A : Around} {R : Result → Shared → Prop} {I : Addr} {fp wr : List Addr} {G : Array GenState → Array GenState → Prop} {n : Nat} {P : Nat → Value → Prop} {St : Nat → Shared → Prop}
theorem upd_S (W : WalksS PG w A.in1 I fp wr G n P St) (S : Addr) (hSf : S ∉ fp) (val : Nat → Nat) (hval : ∀ i v, P i v → ∃ t, v = .int (val i : Int) t) (hlt : ∀ i, val i < 64) (hn : n ≤ 2) :
    ∀ (k i : Nat) (s : Shared), n - i = k → i ≤ n → St i s → (∃ o, s.heap.get? S = some o ∧ SetR w o (firstMet (fun i => (val i : Int)) i)) →
      (∀ s', Moved (S :: wr) G s s' → (∃ o, s'.heap.get? S = some o ∧ SetR w o (firstMet (fun i => (val i : Int)) n)) → R (.ok (.ret .none)) s') →
      codeAny (model PG w) A (.builtin "set.update.loop" ⟨[.ref S, .ref I], []⟩) R s := by
  have hSw : S ∉ wr := fun h => hSf (W.sub _ h)
  have hsub : ∀ b ∈ wr, b ∈ S :: wr := fun b hb => List.mem_cons_of_mem _ hb
  intro k
  induction k with
  | zero =>
    intro i s hk hi hst hS hR
    obtain rfl : i = n := by omega
    refine codeAny_builtin PyProof.Rows.F.entry_set_update_loop ?_
    rw [Around.under_plainId PyProof.Rows.F.plain_set_update_loop _]
    show wpAny _ A.in1 (pyNext (.ref I) >>= _) _ _ s
    refine wpAny_bind (W.done s _ _ hst fun s' hm => ?_)
    refine bc fun z9 => ?_
    refine ex1 hS fun o h9 => ?_; refine el2 h9 fun ho hr => ?_; clear h9; try clear hS
    refine z9 ?_; clear z9; try k_unmd
    exact wpAny_pure (hR s' (hm.mono hsub) ⟨o, hm.heap S _ hSw ho, hr⟩)
  | succ k ih =>
    intro i s hk hi hst hS hR
    have hi' : i < n := by omega
    refine codeAny_builtin PyProof.Rows.F.entry_set_update_loop ?_
    rw [Around.under_plainId PyProof.Rows.F.plain_set_update_loop _]
    show wpAny _ A.in1 (pyNext (.ref I) >>= _) _ _ s
    refine wpAny_bind (W.item i s _ _ hi' hst fun v s' hP hst' hm => ?_)
    refine bc fun z9 => ?_
    obtain ⟨t, rfl⟩ := hval i v hP
    refine ex1 hS fun o h9 => ?_; refine el2 h9 fun ho hr => ?_; clear h9; try clear hS
    refine z9 ?_; clear z9; try k_unmd
    have ho' := hm.heap S _ hSw ho
    show wpAny _ A.in1 (holding [Value.int (val i : Int) t] (setAdd S (.int (val i : Int) t)) >>= _) _ _ s'
    refine wpAny_bind (wpAny_holding ?_)
    unfold setAdd
    refine wpAny_holding ?_
    refine wpAny_bind ((intKind PG w).pyHash (k := (val i : Int)) (intKind_is _ _ _ _) ?_)
    refine add_S (s := { s' with toks := s'.toks + 1 }) ho' hr (.inl (Nat.le_trans (firstMet_length_le _ i) (by omega))) (hlt i) fun b h' o' hsb ho'' hr' => ?_
    refine wpAny_pure ⟨plainId_quiet PyProof.Rows.F.plain_set_update_loop _, ih (i + 1) _ (by omega) hi' (W.frame _ s' _ _ hst' (Nat.le_succ _) fun b hb o e => ?_) ⟨o', ho'', by rw [firstMet_succ]; exact hr'⟩ fun s'' hm'' hS'' => ?_⟩
    · rw [hsb.2 b (fun h : b = S => hSf (by rw [← h]; exact hb))]; exact e
    · refine hR s'' (Moved.trans W.gtrans ((hm.mono hsub).then_heap (Nat.le_succ _) fun b o hb e => ?_) hm'') hS''
      rw [hsb.2 b (fun h : b = S => hb (by rw [h]; exact List.mem_cons_self))]; exact e
end
section
variable {w : World} {A : Around} {E : Value → Shared → Prop} {s : Shared}
theorem new_S (a : Value) {Q₁ : Value → Shared → Prop} (h : Q₁ (.ref s.heap.objs.size) { s with heap := s.heap.push (so #[] 0 (Tb (!bt w) #[])) }) :
    codeAny (model PG w) A (.call (.builtin "set.__new__") ⟨[.type "set", a], []⟩) (wants Q₁ E) s := by
  refine codeAny_of_tree ?_
  show wpAny _ A.in1 (do checkBuiltinCall "set.__new__" ⟨[.type "set", a], []⟩; again (.builtin "set.__new__" ⟨[.type "set", a], []⟩)) _ _ s
  refine wpAny_bind (wpAny_of_eq (PySem.F.newCall_set_1 a) (wpAny_pure ⟨plainId_quiet PySem.F.plain_set_new _, codeAny_builtin PySem.F.entry_set_new ?_⟩))
  rw [Around.under_plainId PySem.F.plain_set_new _]
  unfold Builtin.«set.__new__» Builtin.Frozenset.newClass
  have hsub := sub_set_self
  refine bc fun z9 => ?_
  obtain ⟨hp, g, d, tk, os⟩ := s; try clear s
  refine z9 ?_; clear z9; try k_unmd
  dsimp only
  wp_walk
  refine wpAny_askSetting (wpAny_pure ?_)
  dsimp only
  simp only [newObj]
  refine wpAny_bind (wpAny_alloc (wpAny_pure ?_))
  exact wpAny_pure h
theorem set_S {l : Addr} {vs : List Value} {ks : List Nat} {Q : Value → Shared → Prop} (hh : A.handled = none) (hl : s.heap.IsList l vs.toArray) (hi : IntsAre vs (nats ks)) (hk : ks.length ≤ 2) (hlt : ∀ k ∈ ks, k < 64)
    (h : ∀ (h' : Heap) (tk : Nat) o, h'.get? s.heap.objs.size = some o → SetR w o (firstMet (fun i => ((ks.getD i 0 : Nat) : Int)) ks.length) →
      (∀ b o, b < s.heap.objs.size → s.heap.get? b = some o → h'.get? b = some o) → Q (.ref s.heap.objs.size) { s with heap := h', toks := tk }) :
    wpAny (model PG w) A (call (.type "set") [.ref l]) Q E s := by
  refine bc fun z9 => ?_
  refine ex2 PySem.F.called_set.mro fun c tl hmro => ?_
  refine z9 ?_; clear z9; try k_unmd
  have hmade := PySem.F.called_set.made
  have hsub := PySem.F.called_set.sub
  have hlen : vs.length = ks.length := by simpa [nats] using hi.length
  refine wpAny_call (codeAny_of_tree ?_)
  show wpAny _ _ (callAny (.type "set") _) _ _ _
  refine wpAny_pure ⟨Code.quiet_builtin _ (by decide +kernel), codeAny_builtin PySem.F.entry_type_call ?_⟩
  rw [Around.under_plain (weight_type_call_type "set" [.ref l] []) rfl]
  have h1 := PySem.F.called_set.notType
  have h2 := PySem.F.called_set.canCreate
  have hct := PySem.F.typeCall_set_1 (.ref l)
  repeat (any_goals (first | assumption | with_reducible (first | refine wpAny_pure ?_ | refine wpAny_bind ?_ | refine wpAny_holding ?_ | refine wpAny_of_eq ‹_› ?_ | refine wpAny_typeOf ‹_› ?_ | refine wpAny_specialOf ‹_› ‹_› ?_ | refine wpAny_isInstance ‹_› ‹_› ?_ | refine wpAny_call ?_) | ((with_reducible apply wpAny_ite_false); focus (rfl; done)) | wp_delta | wp_step))
  refine codeAny_mono (new_S (.ref l) (E := E) (Q₁ := fun obj s₁ => obj = .ref s.heap.objs.size ∧ s₁ = { s with heap := s.heap.push (so #[] 0 (Tb (!bt w) #[])) }) ⟨rfl, rfl⟩) fun r s₁ hr => ?_
  cases r with
  | error e => exact hr
  | ok fl =>
    cases fl with
    | ret obj =>
      obtain ⟨rfl, rfl⟩ := hr
      have hS : (s.heap.push (so #[] 0 (Tb (!bt w) #[]))).get? s.heap.objs.size = some (so #[] 0 (Tb (!bt w) #[])) := Heap.get?_push_size _ rfl
      have hT : Shared.TypeIs { s with heap := s.heap.push (so #[] 0 (Tb (!bt w) #[])) } (.ref s.heap.objs.size) "set" := ⟨_, hS, rfl⟩
      have hli := PySem.F.called_set.init.lookup
      have hbi := PySem.F.called_set.init.bind (.ref s.heap.objs.size)
      repeat (any_goals (first | assumption | with_reducible (first | refine wpAny_pure ?_ | refine wpAny_bind ?_ | refine wpAny_holding ?_ | refine wpAny_of_eq ‹_› ?_ | refine wpAny_typeOf ‹_› ?_ | refine wpAny_specialOf ‹_› ‹_› ?_ | refine wpAny_isInstance ‹_› ‹_› ?_ | refine wpAny_call ?_) | ((with_reducible apply wpAny_ite_false); focus (rfl; done)) | wp_delta | wp_step))
      let PP : Value → Shared → Prop := fun r s₂ => r = .none ∧ ∃ h' tk o, s₂ = { s with heap := h', toks := tk } ∧ h'.get? s.heap.objs.size = some o ∧
          SetR w o (firstMet (fun i => ((ks.getD i 0 : Nat) : Int)) ks.length) ∧
          (∀ b o, b < s.heap.objs.size → s.heap.get? b = some o → h'.get? b = some o)
      refine codeAny_mono (codeAny_call_builtin (R := wants PP E) PySem.F.called_set.init.plain PySem.F.entry_set_init (check_set_init_1 hT ?_)) fun r₂ s₂ hr₂ => ?_
      · obtain ⟨ol, hol, hcl, nl, hdl⟩ := hl
        refine bc fun z9 => ?_
        obtain ⟨ocls, odict, odata, oslots⟩ := ol; try clear ol
        refine z9 ?_; clear z9; try k_unmd
        simp only at hcl hdl
        subst hcl; subst hdl
        have hol' : (s.heap.push (so #[] 0 (Tb (!bt w) #[]))).get? l = some { cls := .type "list", dict := odict, data := .seq vs.toArray nl, slots := oslots } := Heap.get?_push_of_some _ hol
        have hsls := PySem.F.sub_list_set
        have hslf := PySem.F.sub_list_frozenset
        have hne : (Value.type "list" == Value.type "dict") = false := by decide
        have hl1 : (s.heap.push (so #[] 0 (Tb (!bt w) #[]))).IsList l vs.toArray := ⟨_, hol', rfl, nl, rfl⟩
        unfold Builtin.«set.__init__» Builtin.Frozenset.updateFrom
        generalize hPI : pyIter = PI
        repeat (first | with_reducible (first | refine wpAny_pure ?_ | refine wpAny_bind ?_ | refine wpAny_holding ?_ | refine wpAny_of_eq ‹_› ?_ | refine wpAny_typeOf ‹_› ?_ | refine wpAny_specialOf ‹_› ‹_› ?_ | refine wpAny_isInstance ‹_› ‹_› ?_ | refine wpAny_call ?_) | ((with_reducible apply wpAny_ite_false); focus (rfl; done)) | wp_delta | wp_step)
        subst hPI
        refine wpAny_pyIter_list hl1 ?_
        refine wpAny_bind (wpAny_runValue ?_)
        have hlS : l < s.heap.objs.size := Heap.lt_size hol
        have hh3 : A.in1.in1.in1.handled = none := by simp [hh]
        have hneI : l ≠ (s.heap.push (so #[] 0 (Tb (!bt w) #[]))).objs.size := by
          rw [Heap.size_push]; exact Nat.ne_of_lt (Nat.lt_succ_of_lt hlS)
        have hSf : s.heap.objs.size ∉ [(s.heap.push (so #[] 0 (Tb (!bt w) #[]))).objs.size, l] := by
          rw [Heap.size_push]; simp only [List.mem_cons, List.not_mem_nil, or_false, not_or]
          exact ⟨Nat.ne_of_lt (Nat.lt_succ_self _), Nat.ne_of_gt hlS⟩
        have hval : ∀ (i : Nat) (v : Value), vs.toArray[i]? = some v → ∃ t, v = .int ((ks.getD i 0 : Nat) : Int) t := fun i v hv => by
          have hv : vs[i]? = some v := by simpa using hv
          have hik : i < ks.length := by
            rcases Nat.lt_or_ge i vs.length with q | q
            · omega
            · rw [List.getElem?_eq_none q] at hv; cases hv
          obtain ⟨t, ht⟩ := hi.get i _ (nats_get hik)
          rw [hv] at ht
          exact ⟨t, Option.some.inj ht⟩
        have hlt' : ∀ i, ks.getD i 0 < 64 := fun i => by
          rcases Nat.lt_or_ge i ks.length with q | q
          · rw [List.getD_eq_getElem?_getD, List.getElem?_eq_getElem q]; exact hlt _ (List.getElem_mem q)
          · rw [List.getD_eq_getElem?_getD, List.getElem?_eq_none q]; decide
        refine upd_S ((Walks.list hh3 _ l hneI vs.toArray).toS) s.heap.objs.size hSf (fun i => ks.getD i 0) hval hlt' (by simp; omega) (vs.toArray.size - 0) 0 _ (by omega) (Nat.zero_le _)
          ⟨⟨_, Heap.get?_push_size _ rfl, rfl, rfl⟩, (hl1.push _)⟩ ⟨_, Heap.get?_push_of_some _ hS, ⟨_, .nil 0, .refl _⟩⟩ ?hR
        case hR =>
          intro s' hm hS'
          refine bc fun z9 => ?_
          obtain ⟨h', g', d', tk', os'⟩ := s'; try clear s'
          refine z9 ?_; clear z9; try k_unmd
          have eg : g' = s.gens := hm.gens
          have ed : d' = s.drawn := hm.drawn
          have eo : os' = s.os := hm.os
          subst eg; subst ed; subst eo
          refine bc fun z9 => ?_
          refine ex1 hS' fun o' h9 => ?_; refine el2 h9 fun ho' hr' => ?_; clear h9; try clear hS'
          refine z9 ?_; clear z9; try k_unmd
          rw [List.size_toArray, hlen] at hr'
          show wpAny _ _ _ _ _ _
          refine wpAny_pure ?_
          show wpAny _ _ (ret Value.none) _ _ _
          refine wpAny_pure ⟨rfl, h', tk', o', rfl, ho', hr', fun b o hb e => ?_⟩
          have hb1 : b ≠ s.heap.objs.size := Nat.ne_of_lt hb
          have hb2 : b ≠ (s.heap.push (so #[] 0 (Tb (!bt w) #[]))).objs.size := by
            rw [Heap.size_push]; exact Nat.ne_of_lt (Nat.lt_succ_of_lt hb)
          exact hm.heap b o (by simp only [List.mem_cons, List.not_mem_nil, or_false, not_or]; exact ⟨hb1, hb2⟩) (Heap.get?_push_of_some _ (Heap.get?_push_of_some _ e))
      · cases r₂ with
        | error e => exact hr₂
        | ok fl₂ =>
          cases fl₂ with
          | ret r =>
            refine bc fun z9 => ?_
            obtain ⟨hq3, h', tk, o, hq4, ho, hr, hk'⟩ := hr₂; try clear hr₂
            obtain rfl := hq3
            obtain rfl := hq4
            refine z9 ?_; clear z9; try k_unmd
            repeat (any_goals (first | assumption | with_reducible (first | refine wpAny_pure ?_ | refine wpAny_bind ?_ | refine wpAny_holding ?_ | refine wpAny_of_eq ‹_› ?_ | refine wpAny_typeOf ‹_› ?_ | refine wpAny_specialOf ‹_› ‹_› ?_ | refine wpAny_isInstance ‹_› ‹_› ?_ | refine wpAny_call ?_) | ((with_reducible apply wpAny_ite_false); focus (rfl; done)) | wp_delta | wp_step))
            exact h _ _ _ ho hr hk'
          | _ => exact hr₂.elim
    | _ => exact hr.elim
end
end
section
theorem slot_si_next : Slot "set_iterator" "__next__" "set_iterator.__next__" :=
  .of (owner := "set_iterator") (n := "__next__") (by rw [typeLookup_type, builtinLookup_eq_fast]; kernel_rfl) (by decide +kernel) (by decide +kernel) (by decide +kernel)
    (by first | exact .inl (by decide +kernel) | exact .inr (by decide +kernel)) (by rw [isSubtype_type]; kernel_rfl)
theorem entry_si_next : entryFor table "set_iterator.__next__" = some Builtin.«set_iterator.__next__» := entryFor_of_tree (by kernel_rfl)
theorem args_si_next (a : Value) : argsOk "set_iterator.__next__" ⟨[a], []⟩ := by unfold argsOk; kernel_rfl
theorem slot_si_iter : Slot "set_iterator" "__iter__" "set_iterator.__iter__" :=
  .of (owner := "set_iterator") (n := "__iter__") (by rw [typeLookup_type, builtinLookup_eq_fast]; kernel_rfl) (by decide +kernel) (by decide +kernel) (by decide +kernel)
    (by first | exact .inl (by decide +kernel) | exact .inr (by decide +kernel)) (by rw [isSubtype_type]; kernel_rfl)
theorem entry_si_iter : entryFor table "set_iterator.__iter__" = some Builtin.«dict_keyiterator.__iter__» :=
  entryFor_alias (id' := "dict_keyiterator.__iter__") (by rw [fastTable_eq_tree]; kernel_rfl) rfl (by decide +kernel) (by rw [fastTable_eq_tree]; kernel_rfl)
theorem args_si_iter (a : Value) : argsOk "set_iterator.__iter__" ⟨[a], []⟩ := by unfold argsOk; kernel_rfl
theorem entry_set_iter' : entryFor table "set.__iter__" = some Builtin.«frozenset.__iter__» :=
  entryFor_alias (id' := "frozenset.__iter__") (by rw [fastTable_eq_tree]; kernel_rfl) rfl (by decide +kernel) (by rw [fastTable_eq_tree]; kernel_rfl)
theorem below2 {p q : Nat} (j : Nat) (h : p < q) : SetTable.below #[p, q] j = if q < j then 2 else if p < j then 1 else 0 := by
  unfold SetTable.below
  simp [SetTable.below.go]
noncomputable def outs (w : World) (a : Addr) (ep : Nat) (es : Array (Int × Value)) : List Value := ((if bt w then pickOrder (w.params.setOrder a ep) es else es).toList).map (·.2)
noncomputable def slotAt (place : Array Nat) (i : Nat) : Nat := if i = 0 then 0 else place.getD (i - 1) 0 + 1
theorem pick1 {f : Nat → Nat} {x : Int × Value} : pickOrder f #[x] = #[x] := by
  simp [pickOrder, pickOrder.go, Nat.mod_one]
theorem pick2 {f : Nat → Nat} {x y : Int × Value} : pickOrder f #[x, y] = #[x, y] ∨ pickOrder f #[x, y] = #[y, x] := by
  have h : f 0 % 2 = 0 ∨ f 0 % 2 = 1 := by omega
  rcases h with h | h
  · exact .inl (by simp [pickOrder, pickOrder.go, h, Nat.mod_one])
  · exact .inr (by simp [pickOrder, pickOrder.go, h, Nat.mod_one])
theorem outs_ints {w : World} {o : Obj} {ns : List Int} {es ep t} (h : SetS w o ns) (e : o = so es ep t) (a : Addr) : ∃ ns', IntsAre (outs w a ep es) ns' ∧ ns'.Perm ns := by
  cases h with
  | nil ep' =>
    cases e
    refine ⟨[], ?_, .refl _⟩
    unfold outs
    split <;> exact .nil
  | one ep' p n u hp =>
    cases e
    refine ⟨[n], ?_, .refl _⟩
    unfold outs
    split
    · rw [pick1]; exact .cons n u .nil
    · exact .cons n u .nil
  | two ep' p q n m u v hpq hq =>
    cases e
    unfold outs
    split
    · rcases pick2 (f := w.params.setOrder a _) (x := ei n u) (y := ei m v) with h | h
      · rw [h]; exact ⟨[n, m], .cons n u (.cons m v .nil), .refl _⟩
      · rw [h]; exact ⟨[m, n], .cons m v (.cons n u .nil), .swap _ _ _⟩
    · exact ⟨[n, m], .cons n u (.cons m v .nil), .refl _⟩
section
variable {w : World} {A : Around} {E : Value → Shared → Prop} {s : Shared}
theorem byText_S {Q : Bool → Shared → Prop} (h : Q (bt w) s) : wpAny (model PG w) A setsByText Q E s := by
  unfold setsByText
  exact wpAny_bind (wpAny_askSetting (wpAny_pure h))
theorem next_S {a : Addr} {ns : List Int} {es : Array (Int × Value)} {ep : Nat} {t : SetTable} {i slot : Nat} {Q : Option (Value × Nat) → Shared → Prop} (h : SetS w (so es ep t) ns) (ho : s.heap.get? a = some (so es ep t)) (hs : bt w = false → slot = slotAt t.place i) (hi : i ≤ ns.length)
    (some_ : ∀ x next, (outs w a ep es)[i]? = some x → (bt w = false → next = slotAt t.place (i + 1)) → Q (some (x, next)) s) (none_ : (outs w a ep es)[i]? = none → Q none s) :
    wpAny (model PG w) A (setNext a slot i ep) Q E s := by
  refine bc fun z9 => ?_
  refine ex3 (id h.ok) fun es' ep' t' h9 => ?_; refine el5 h9 fun e hf hel hsz _ => ?_; clear h9
  refine z9 ?_; clear z9; try k_unmd
  cases e
  unfold setNext
  refine wpAny_bind (wpAny_setState_of ho rfl hf ?_)
  refine wpAny_bind (byText_S ?_)
  cases hb : bt w with
  | true =>
    simp only [↓reduceIte, bne_self_eq_false, Bool.false_eq_true]
    refine wpAny_bind ?_
    unfold setWalk
    refine wpAny_bind (wpAny_setState_of ho rfl hf ?_)
    refine wpAny_bind (byText_S ?_)
    rw [hb]
    simp only [↓reduceIte]
    refine wpAny_bind (wpAny_askSetting (wpAny_pure ?_))
    refine wpAny_pure ?_
    have e : (outs w a ep es)[i]? = ((pickOrder (w.params.setOrder a ep) es)[i]?).map (·.2) := by
      unfold outs
      rw [hb, if_pos rfl, List.getElem?_map, Array.getElem?_toList]
    show Q (((pickOrder (w.params.setOrder a ep) es)[i]?).map fun e => (e.2, slot)) s
    cases q : (pickOrder (w.params.setOrder a ep) es)[i]? with
    | none => rw [q] at e; exact none_ e
    | some x => rw [q] at e; exact some_ x.2 slot e (fun h => by rw [hb] at h; cases h)
  | false =>
    have hs := hs hb
    have e : (outs w a ep es)[i]? = (es[i]?).map (·.2) := by
      unfold outs
      rw [hb, if_neg Bool.false_ne_true, List.getElem?_map, Array.getElem?_toList]
    simp only [Bool.false_eq_true, ↓reduceIte]
    have hl : t.led = true ∧ t.plain = true := by
      cases h <;> exact ⟨by simp [Tb, hb], rfl⟩
    show wpAny _ _ (if (!t.plain && decide (es.size > 1)) = true then _ else _) _ _ s
    rw [if_neg (by simp [hl.2])]
    refine wpAny_bind (show wpAny _ _ (if (!t.led && !es.isEmpty) = true then unsupported "set:maker-not-led" else pure ()) _ _ s from ?_)
    rw [if_neg (by simp [hl.1])]
    refine wpAny_pure (wpAny_pure ?_)
    have hbel : SetTable.below t.place slot = i ∧ ∀ x, es[i]? = some x → ∃ k, t.place[i]? = some k ∧ slotAt t.place (i + 1) = k + 1 := by
      subst hs
      cases h with
      | nil =>
        obtain rfl : i = 0 := by simpa using hi
        exact ⟨rfl, fun x hx => by simp at hx⟩
      | one _ p n u hp =>
        rcases (show i = 0 ∨ i = 1 by simp at hi; omega) with rfl | rfl
        · exact ⟨by show SetTable.below #[p] 0 = 0; rw [below1, if_neg (by omega)], fun x hx => ⟨p, rfl, rfl⟩⟩
        · exact ⟨by show SetTable.below #[p] (p + 1) = 1; rw [below1, if_pos (by omega)], fun x hx => by simp at hx⟩
      | two _ p q n m u v hpq hq =>
        rcases (show i = 0 ∨ i = 1 ∨ i = 2 by simp at hi; omega) with rfl | rfl | rfl
        · exact ⟨by show SetTable.below #[p, q] 0 = 0; rw [below2 _ hpq, if_neg (by omega), if_neg (by omega)], fun x hx => ⟨p, rfl, rfl⟩⟩
        · exact ⟨by show SetTable.below #[p, q] (p + 1) = 1; rw [below2 _ hpq, if_neg (by omega), if_pos (by omega)], fun x hx => ⟨q, rfl, rfl⟩⟩
        · exact ⟨by show SetTable.below #[p, q] (q + 1) = 2; rw [below2 _ hpq, if_pos (by omega)], fun x hx => by simp at hx⟩
    rw [hbel.1]
    cases q : es[i]? with
    | none => rw [q] at e; exact none_ e
    | some x =>
      rw [q] at e
      refine bc fun z9 => ?_
      refine ex1 (hbel.2 x q) fun k h9 => ?_; refine el2 h9 fun h1 h2 => ?_; clear h9
      refine z9 ?_; clear z9; try k_unmd
      rw [h1]
      exact some_ x.2 (k + 1) e fun _ => h2.symm
end
end
section
noncomputable abbrev siO (slot i : Nat) (S : Addr) (n ep : Nat) : Obj := { cls := .type "set_iterator", data := .fields #[rawInt (slot : Int), rawInt (i : Int), .ref S, rawInt (n : Int), rawInt (ep : Int)] }
section
variable {w : World} {A : Around} {E : Value → Shared → Prop} {s : Shared} {S I : Addr} {ns : List Int} {es : Array (Int × Value)} {ep : Nat} {t : SetTable} {i slot : Nat}
theorem item_S {Q : Option Value → Shared → Prop} (h : SetS w (so es ep t) ns) (ho : s.heap.get? S = some (so es ep t)) (hI : s.heap.get? I = some (siO slot i S ns.length ep)) (hs : bt w = false → slot = slotAt t.place i) (hi : i < ns.length) (hIS : S ≠ I)
    (hQ : ∀ x next h', (outs w S ep es)[i]? = some x → (bt w = false → next = slotAt t.place (i + 1)) → h'.get? I = some (siO next (i + 1) S ns.length ep) → Heap.SameBut I s.heap h' → Q (some x) { s with heap := h' }) :
    wpAny (model PG w) A (pyNext (.ref I)) Q E s := by
  have hT : s.TypeIs (.ref I) "set_iterator" := ⟨_, hI, rfl⟩
  refine bc fun z9 => ?_
  refine ex3 (id h.ok) fun es' ep' t' h9 => ?_; refine el5 h9 fun e hf hel hsz _ => ?_; clear h9
  refine z9 ?_; clear z9; try k_unmd
  cases e
  unfold pyNext
  refine wpAny_bind (wpAny_attempt (wpAny_callSpecial?_slot (name := Str.ofString "__next__") hT slot_si_next (wpAny_call_entry slot_si_next hT entry_si_next ?_ (args_si_next _))))
  unfold Builtin.«set_iterator.__next__»
  refine wpAny_bind (wpAny_pure ?_)
  refine wpAny_bind (wpAny_fieldsOf hI rfl ?_)
  dsimp only [rawInt]
  unfold setEntries
  refine wpAny_bind (wpAny_bind (wpAny_setState_of ho rfl hf (wpAny_pure ?_)))
  rw [if_neg (by simp [hsz])]
  simp only [Int.toNat_natCast]
  refine wpAny_bind (next_S h ho hs (Nat.le_of_lt hi) (fun x next hx hn => ?_) fun hnone => ?_)
  · dsimp only
    refine wpAny_bind (wpAny_setField hI rfl (by simp) ?_)
    have h1 := Heap.get?_update_self (Obj.mapFields (·.setIfInBounds 0 (Value.int (next : Int) 0))) hI rfl
    refine wpAny_bind (wpAny_setField (s := { s with heap := s.heap.update I (Obj.mapFields (·.setIfInBounds 0 (Value.int (next : Int) 0))) }) h1 rfl (by simp) ?_)
    have h2 := Heap.get?_update_self (Obj.mapFields (·.setIfInBounds 1 (Value.int ((i : Int) + 1) 0))) h1 rfl
    exact wpAny_pure ⟨_, rfl, wpAny_pure (hQ x next _ hx hn h2 ((Heap.SameBut.update ..).trans (Heap.SameBut.update ..)))⟩
  · exfalso
    refine bc fun z9 => ?_
    refine ex1 (outs_ints h rfl S) fun ns' h9 => ?_; refine el2 h9 fun hn1 hn2 => ?_; clear h9
    refine z9 ?_; clear z9; try k_unmd
    have hl : (outs w S ep es).length = ns.length := hn1.length.trans hn2.length_eq
    have := List.getElem?_eq_none_iff.mp hnone
    omega
theorem end_S {Q : Option Value → Shared → Prop} (hh : A.handled = none) (h : SetS w (so es ep t) ns) (ho : s.heap.get? S = some (so es ep t)) (hI : s.heap.get? I = some (siO slot ns.length S ns.length ep)) (hs : bt w = false → slot = slotAt t.place ns.length)
    (hQ : ∀ h', Heap.ExtBut I s.heap h' → Q none { s with heap := h' }) :
    wpAny (model PG w) A (pyNext (.ref I)) Q E s := by
  have hT : s.TypeIs (.ref I) "set_iterator" := ⟨_, hI, rfl⟩
  refine bc fun z9 => ?_
  refine ex3 (id h.ok) fun es' ep' t' h9 => ?_; refine el5 h9 fun e hf hel hsz _ => ?_; clear h9
  refine z9 ?_; clear z9; try k_unmd
  cases e
  unfold pyNext
  refine wpAny_bind (wpAny_attempt (wpAny_callSpecial?_slot (name := Str.ofString "__next__") hT slot_si_next (wpAny_call_entry slot_si_next hT entry_si_next ?_ (args_si_next _))))
  unfold Builtin.«set_iterator.__next__»
  refine wpAny_bind (wpAny_pure ?_)
  refine wpAny_bind (wpAny_fieldsOf hI rfl ?_)
  dsimp only [rawInt]
  unfold setEntries
  refine wpAny_bind (wpAny_bind (wpAny_setState_of ho rfl hf (wpAny_pure ?_)))
  rw [if_neg (by simp [hsz])]
  simp only [Int.toNat_natCast]
  refine wpAny_bind (next_S h ho hs (Nat.le_refl _) (fun x next hx hn => ?_) fun hnone => ?_)
  · exfalso
    refine bc fun z9 => ?_
    refine ex1 (outs_ints h rfl S) fun ns' h9 => ?_; refine el2 h9 fun hn1 hn2 => ?_; clear h9
    refine z9 ?_; clear z9; try k_unmd
    have hl : (outs w S ep es).length = ns.length := hn1.length.trans hn2.length_eq
    rw [List.getElem?_eq_none (by omega)] at hx
    cases hx
  · dsimp only
    refine wpAny_bind (wpAny_setField hI rfl (by simp) ?_)
    show wpAny _ _ (newExc (.type "StopIteration") [] >>= _) _ _ _
    refine wpAny_bind ?_
    simp only [newExc, newTuple]
    refine wpAny_bind (wpAny_newObj_type ?_ (by size_fits))
    refine wpAny_bind (m := firstArgMember _ _) (wpAny_of_eq (a := Value.none) (by first | rfl | (simp only [firstArgMember]; rfl)) ?_)
    refine wpAny_newObj_type ?_ (by size_fits)
    simp only [raiseNew]
    refine wpAny_bind (wpAny_handled ?_)
    rw [show A.in1.handled = none from hh]
    refine wpAny_bind (wpAny_pure (wpAny_throw ?_))
    refine wpAny_bind (wpAny_isInstance (T := "StopIteration") (b := true) ⟨_, Heap.get?_push_size _ rfl, rfl⟩ isSubtype_stop ?_)
    exact wpAny_pure (hQ _ (((Heap.SameBut.update ..).extBut.push _).push _))
theorem Walks.set2 (hh : A.handled = none) (h : SetS w (so es ep t) ns) (hIS : S ≠ I) :
    Walks PG w A I [I, S] [I] ns.length (fun i v => (outs w S ep es)[i]? = some v) (fun i hp => hp.get? S = some (so es ep t) ∧ ∃ slot, hp.get? I = some (siO slot i S ns.length ep) ∧ (bt w = false → slot = slotAt t.place i)) where
  sub := fun b hb => by simp at hb; simp [hb]
  frame := fun _ _ _ st hk => ⟨hk S (by simp) _ st.1, let ⟨slot, h1, h2⟩ := st.2; ⟨slot, hk I (by simp) _ h1, h2⟩⟩
  item := fun i s Q E hi st hQ => by
    refine bc fun z9 => ?_
    obtain ⟨ho, slot, hI, hs⟩ := st; try clear st
    refine z9 ?_; clear z9; try k_unmd
    refine item_S h ho hI hs hi hIS fun x next h' hx hn hI' hsb => ?_
    exact hQ x h' s.toks hx ⟨(hsb.2 S hIS).trans ho, next, hI', hn⟩ fun b o hb e => (hsb.2 b (fun q => hb (by simp [q]))).trans e
  done := fun s Q E st hQ => by
    refine bc fun z9 => ?_
    obtain ⟨ho, slot, hI, hs⟩ := st; try clear st
    refine z9 ?_; clear z9; try k_unmd
    exact end_S hh h ho hI hs fun h' he => hQ h' s.toks fun b o hb e => he b o (fun q => hb (by simp [q])) e
  self := fun i s Q E st hQ => by
    refine bc fun z9 => ?_
    obtain ⟨ho, slot, hI, hs⟩ := st; try clear st
    refine z9 ?_; clear z9; try k_unmd
    have hT : s.TypeIs (.ref I) "set_iterator" := ⟨_, hI, rfl⟩
    refine wpAny_pyIter_slot hT slot_si_iter (wpAny_call_entry slot_si_iter hT entry_si_iter ?_ (args_si_iter _))
    show wpAny _ _ (ret (.ref I)) _ _ s
    exact wpAny_pure ⟨_, rfl, "set_iterator", _, hT, slot_si_next.lookup, hQ⟩
theorem hint_S {Q : Bool → Shared → Prop} (hT : s.TypeIs (.ref S) "set") (h : Q false s) : wpAny (model PG w) A (Builtin.List.listLengthHint (.ref S)) Q E s := by
  unfold Builtin.List.listLengthHint
  refine wpAny_bind (wpAny_specialOf hT PySem.F.slot_set_len.lookup ?_)
  generalize hid : ("set.__len__" : String) = id0
  wp_delta
  rw [show splitId id0 = some ("set", "__len__") from by subst hid; decide +kernel]
  subst hid
  refine wpAny_bind (wpAny_isInstance (T := "set") (b := true) hT (by rw [isSubtype_type]; kernel_rfl) ?_)
  refine wpAny_ite_split (fun hab => absurd hab (by decide)) (fun _ => ?_)
  refine wpAny_ite_split (fun _ => ?_) (fun hab => absurd (by decide +kernel) hab)
  refine wpAny_bind (wpAny_typeOf hT ?_)
  exact wpAny_pure h
theorem iter_S {Q : Value → Shared → Prop} (h : SetS w (so es ep t) ns) (ho : s.heap.get? S = some (so es ep t)) (hQ : Q (.ref s.heap.objs.size) { s with heap := s.heap.push (siO 0 0 S ns.length ep) }) : wpAny (model PG w) A (pyIter (.ref S)) Q E s := by
  have hT : s.TypeIs (.ref S) "set" := ⟨_, ho, rfl⟩
  refine bc fun z9 => ?_
  refine ex3 (id h.ok) fun es' ep' t' h9 => ?_; refine el5 h9 fun e hf hel hsz _ => ?_; clear h9
  refine z9 ?_; clear z9; try k_unmd
  cases e
  refine wpAny_pyIter_slot hT PySem.F.slot_set_iter (wpAny_call_entry PySem.F.slot_set_iter hT entry_set_iter' ?_ (PySem.F.args_set_iter_1 _))
  unfold Builtin.«frozenset.__iter__»
  refine wpAny_bind (wpAny_pure (a := S) ?_)
  unfold Builtin.Frozenset.sizeOf setEntries
  refine wpAny_bind (wpAny_bind (wpAny_bind (wpAny_setState_of ho rfl hf (wpAny_pure (wpAny_pure ?_)))))
  unfold setDrawn
  refine wpAny_bind (wpAny_bind (wpAny_setState_of ho rfl hf ?_))
  dsimp only
  refine wpAny_bind (byText_S (wpAny_pure ?_))
  have hpl : t.plain = true := by cases h <;> rfl
  show wpAny _ _ (if (!bt w && (!t.plain && decide (es.size > 1))) = true then _ else _) _ _ s
  rw [if_neg (by simp [hpl])]
  refine wpAny_bind (wpAny_pure ?_)
  refine wpAny_bind (wpAny_setEpoch_of ho rfl hf ?_)
  refine wpAny_bind (m := newFields _ _) (wpAny_newObj_type (wpAny_pure ⟨_, rfl, "set_iterator", _, ⟨_, Heap.get?_push_size _ rfl, rfl⟩, slot_si_next.lookup, ?_⟩))
  simpa [rawInt, hsz, siO] using hQ
theorem src_S (h : SetS w (so es ep t) ns) : KdlSrc PG w "set" S S ns.length (fun i v => (outs w S ep es)[i]? = some v) (fun hp => hp.get? S = some (so es ep t)) where
  type := fun _ hm => ⟨_, hm, rfl⟩
  there := fun _ hm => ⟨Heap.lt_size hm, Heap.lt_size hm⟩
  keep := fun _ _ hm hk => hk S (.inl rfl) _ hm
  notList := by decide
  notTuple := by decide
  hint := fun _ _ _ _ hm hq => hint_S ⟨_, hm, rfl⟩ hq
  iter := fun _ _ hh hm => ⟨_, _, (fun _ _ hq => iter_S h hm hq), Walks.set2 hh h (Nat.ne_of_lt (Heap.lt_size hm)), ⟨Heap.get?_push_of_some _ hm, 0, Heap.get?_push_size _ rfl, fun _ => rfl⟩⟩
theorem sortset_N {h₀ : Heap} {L : Addr} {m : Str → Option Value} {news : Led} {o : Obj} {l : List Int} {Q : Value → Shared → Prop} (hh : A.handled = none) (F : Fr h₀ L s.heap m) (N : News h₀ L s.heap news) (hm : (S, o) ∈ news) (hS : SetR w o l)
    (hQ : ∀ D h' tk vs ns' c, Fr h₀ L h' m → News h₀ L h' ((D, lisO vs c) :: news) → (∀ p ∈ news, p.1 < D) → IntsAre vs ns' → ns'.Perm l → ns'.Pairwise (· ≤ ·) → Q (.ref D) { s with heap := h', toks := tk }) :
    wpAny (model PG w) A (call (.builtin "sorted") [.ref S]) Q E s := by
  refine bc fun z9 => ?_
  refine ex1 hS fun ns h9 => ?_; refine el2 h9 fun hS hp => ?_; clear h9
  refine ex3 (id hS.ok) fun es ep t h9 => ?_; refine el5 h9 fun hq1 hf hel hsz _ => ?_; clear h9
  obtain rfl := hq1
  refine z9 ?_; clear z9; try k_unmd
  have hn : ns.length ≤ 2 := by cases hS <;> simp
  refine bc fun z9 => ?_
  refine ex1 (outs_ints hS rfl S) fun ns' h9 => ?_; refine el2 h9 fun hn1 hn2 => ?_; clear h9
  refine z9 ?_; clear z9; try k_unmd
  refine kdu_sorted (src_S hS) hh F N (N.get hm) (by rw [sizeLine_eq]; omega) fun D h' tk vs F' N' hl hlen hvs => ?_
  have hvo : vs = outs w S ep es := by
    refine List.ext_getElem? fun j => ?_
    rcases Nat.lt_or_ge j vs.length with q | q
    · rw [List.getElem?_eq_getElem q]
      exact (hvs j _ (List.getElem?_eq_getElem q)).symm
    · rw [List.getElem?_eq_none q, List.getElem?_eq_none (by rw [hn1.length, hn2.length_eq]; omega)]
  subst hvo
  have hD := N' (D, listOf (outs w S ep es).toArray 0) (.head _)
  refine wpAny_call_entry slot_list_sort ⟨_, hD.1, rfl⟩ entry_list_sort ?_ (args_list_sort _)
  refine list_sort_tree hD.1 hn1 (by omega) fun out ns'' a1 a2 a3 => ?_
  have hk : ∀ b o, b ∉ [D] → h'.get? b = some o → (sortedHeap h' D (outs w S ep es) out).get? b = some o := fun b o hb e => (sortedHeap_old (by simpa using hb) (Heap.lt_size e)).trans e
  refine bc fun z9 => ?_
  obtain ⟨F₂, N₂⟩ := others_news F' N' (.head _) hk
  obtain ⟨c, hc⟩ := sortedHeap_at (out := out) hD.1
  refine z9 ?_; clear z9; try k_unmd
  refine ⟨_, rfl, hQ D _ tk out.toList ns'' c F₂ (fun p hp => ?_) hl a1 (a2.trans (hn2.trans hp)) a3⟩
  rcases List.mem_cons.mp hp with rfl | hp
  · exact ⟨by simpa [seqObj, lisO] using hc, hD.2⟩
  · exact N₂ p (mem_others (.tail _ hp) (Nat.ne_of_lt (hl p hp)))
noncomputable def dist (ks : List Nat) : List Int := firstMet (fun i => ((ks.getD i 0 : Nat) : Int)) ks.length
theorem set_N {h₀ : Heap} {L l : Addr} {m : Str → Option Value} {news : Led} {vs : List Value} {c : Nat} {ks : List Nat} {Q : Value → Shared → Prop} (hh : A.handled = none) (F : Fr h₀ L s.heap m) (N : News h₀ L s.heap news) (hm : (l, lisO vs c) ∈ news) (hi : IntsAre vs (nats ks)) (hk : ks.length ≤ 2) (hlt : ∀ k ∈ ks, k < 64)
    (hQ : ∀ S h' tk o, Fr h₀ L h' m → News h₀ L h' ((S, o) :: news) → (∀ p ∈ news, p.1 < S) → SetR w o (dist ks) → Q (.ref S) { s with heap := h', toks := tk }) :
    wpAny (model PG w) A (call (.type "set") [.ref l]) Q E s := by
  refine set_S hh ⟨_, N.get hm, rfl, c, rfl⟩ hi hk hlt fun h' tk o ho hr hold => ?_
  refine bc fun z9 => ?_
  refine ex3 F.ns fun oL e1 e2 h9 => ?_; refine el2 h9 fun hL hr2 => ?_; clear h9
  refine z9 ?_; clear z9; try k_unmd
  have hk' : ∀ b ob, s.heap.get? b = some ob → h'.get? b = some ob := fun b ob e => hold b ob (Heap.lt_size e) e
  refine hQ _ h' tk o (F.keeps hk') (fun p hp => ?_) (fun p hp => Heap.lt_size (N p hp).1) hr
  rcases List.mem_cons.mp hp with rfl | hp
  · refine ⟨ho, Nat.ne_of_gt (Heap.lt_size hL), ?_⟩
    cases q : h₀.get? s.heap.objs.size with
    | none => rfl
    | some ob => exact absurd (Heap.lt_size (F.keep _ _ q)) (Nat.lt_irrefl _)
  · exact N.grown hk' p hp
theorem step_nodup {σ : List Int} {v : Int} (h : σ.Nodup) : (step_dedup σ v).Nodup := by
  unfold step_dedup
  split
  · exact h
  · rename_i q
    rw [List.nodup_append]
    refine ⟨h, by simp, fun a ha b hb e => q ?_⟩
    obtain rfl := List.mem_singleton.mp hb
    exact List.any_eq_true.mpr ⟨a, ha, by simp [e]⟩
theorem first_nodup (val : Nat → Int) : ∀ n, (firstMet val n).Nodup
  | 0 => by rw [firstMet_zero]; exact .nil
  | n + 1 => by rw [firstMet_succ]; exact step_nodup (first_nodup val n)
theorem dist_mem (ks : List Nat) (x : Int) : x ∈ dist ks ↔ ∃ k ∈ ks, (k : Int) = x := by
  have h := firstMet_any (fun i => ((ks.getD i 0 : Nat) : Int)) ks.length x
  have h1 : (firstMet (fun i => ((ks.getD i 0 : Nat) : Int)) ks.length).any (· == x) = true ↔ x ∈ dist ks := by simp [dist]
  rw [← h1, h]
  simp only [List.any_map, List.any_eq_true, List.mem_range, Function.comp, beq_iff_eq]
  constructor
  · rintro ⟨i, hi, e⟩
    exact ⟨ks[i], List.getElem_mem hi, by simpa [hi] using e⟩
  · rintro ⟨k, hk, e⟩
    refine bc fun z9 => ?_
    obtain ⟨i, hi, hq2⟩ := (List.getElem_of_mem hk)
    obtain rfl := hq2
    refine z9 ?_; clear z9; try k_unmd
    exact ⟨i, hi, by simpa [hi] using e⟩
theorem dist_nats {ks : List Nat} {ns' : List Int} (h : ns'.Perm (dist ks)) : ∃ cs : List Nat, ns' = nats cs ∧ cs.Nodup ∧ ∀ c, c ∈ cs ↔ c ∈ ks := by
  have hnn : ∀ x ∈ ns', ∃ k : Nat, (k : Int) = x := fun x hx => by
    refine bc fun z9 => ?_
    refine ex1 ((dist_mem ks x).mp (h.mem_iff.mp hx)) fun k h9 => ?_; refine el2 h9 fun _ e => ?_; clear h9
    refine z9 ?_; clear z9; try k_unmd
    exact ⟨k, e⟩
  have hnd : ns'.Nodup := h.nodup_iff.mpr (first_nodup _ _)
  refine ⟨ns'.map Int.toNat, ?_, ?_, fun c => ?_⟩
  · unfold nats
    rw [List.map_map]
    conv => lhs; rw [← List.map_id ns']
    refine List.map_congr_left fun x hx => ?_
    obtain ⟨k, rfl⟩ := hnn x hx
    rfl
  · refine List.pairwise_map.mpr (hnd.imp_of_mem fun {a b} ha hb hab e => hab ?_)
    refine bc fun z9 => ?_
    obtain ⟨k, rfl⟩ := hnn a ha
    obtain ⟨k', rfl⟩ := hnn b hb
    refine z9 ?_; clear z9; try k_unmd
    simp at e
    rw [e]
  · constructor
    · intro hc
      refine bc fun z9 => ?_
      refine ex1 (List.mem_map.mp hc) fun x h9 => ?_; refine el2 h9 fun hx hq3 => ?_; clear h9
      obtain rfl := hq3
      refine ex1 ((dist_mem ks x).mp (h.mem_iff.mp hx)) fun k h9 => ?_; refine el2 h9 fun hk hq4 => ?_; clear h9
      obtain rfl := hq4
      refine z9 ?_; clear z9; try k_unmd
      simpa using hk
    · intro hc
      exact List.mem_map.mpr ⟨(c : Int), h.mem_iff.mpr ((dist_mem ks _).mpr ⟨c, hc, rfl⟩), rfl⟩
end
end
section
section
variable {w : World} {A : Around} {E : Value → Shared → Prop} {s : Shared} {env : Env} {h₀ : Heap} {target : Expr} {body : List Stmt} {Q : Flow → Shared → Prop}
theorem iter_tup_pair {a : Addr} {vs : List Value} {c : Nat} {news : Led} {reg : Reg} {m : Str → Option Value} (J : Nat → (Str → Option Value) → Led → Reg → Prop)
    (hh : A.handled = none) (F : Fr h₀ env.locals s.heap m) (N : News h₀ env.locals s.heap news) (hJ : J 0 m news reg)
    (hat : ∀ i m news reg, J i m news reg → (a, tupO vs c) ∈ news)
    (hmono : ∀ b i m₁ news₁ reg₁ news' reg', (∀ p ∈ news, p.1 < b) → J i m₁ news₁ reg₁ → Gw (fun k => k = 3) reg₁ news₁ reg' news' → Lo b reg₁ news₁ reg' news' → J i m₁ news' reg')
    (turn : ∀ i v m₁ news₁ reg₁ h tk, vs[i]? = some v → J i m₁ news₁ reg₁ → Fr h₀ env.locals h m₁ → News h₀ env.locals h news₁ →
      wpAny (model PG w) A (assign target env v) (fun _ s₂ => wpAny (model PG w) A (execs body env) (TurnPost h₀ env.locals news₁ reg₁ (J (i + 1)) s Q) E s₂) E { s with heap := h, toks := tk })
    (done : ∀ m₁ news₁ reg₁ h tk, J vs.length m₁ news₁ reg₁ → Fr h₀ env.locals h m₁ → News h₀ env.locals h news₁ → Q .next { s with heap := h, toks := tk })
    (hE : PassesOwn (model PG w) A env E) {elts : List Expr} {x1} {ps : Pos} (htg : target = .Tuple elts x1 ps) :
    wpAny (model PG w) A (pyIter (.ref a)) (fun it s₂ => codeAny (model PG w) A (.forLoop target it body [] env) (fun r s' => match r with | .ok f => Q f s' | .error e => cameBackBy (model PG w) A env E e s') s₂) E s := by
  have hl : s.heap.IsTuple a vs.toArray := ⟨_, (N _ (hat _ _ _ _ hJ)).1, rfl, c, rfl⟩
  have hlt : a < s.heap.objs.size := Heap.lt_size (N _ (hat _ _ _ _ hJ)).1
  refine wpAny_pyIter_tuple hl ?_
  have W := Walks.tuple (prog := PG) (w := w) hh s.heap.objs.size a (Nat.ne_of_lt hlt) vs.toArray
  have hlow : ∀ p ∈ news, p.1 < s.heap.objs.size := fun p hp => Heap.lt_size (N p hp).1
  refine bc fun z9 => ?_
  obtain ⟨reg', g, hr⟩ := Gr.fresh (R := fun k => k = 3) (reg := reg) (k := 3) (o := { cls := .type "tuple_iterator", data := .fields #[.ref a, .int 0 0] }) hlow
  refine z9 ?_; clear z9; try k_unmd
  refine loop_led2 W J ?_ ?_ (F.push _) (N.push F _) (.head _) hr (hmono _ _ _ _ _ _ _ hlow hJ g.toGw fun p hp _ => ⟨.tail _ hp, g.regs p hp⟩) ?_ (hmono _ · · · · · · hlow) ?_ ?_ hE ?_
  · rintro i h ⟨⟨o, h1, h2, _⟩, _⟩
    exact ⟨o, h1, not_fixed_type h2 (by decide)⟩
  · obtain ⟨o, ho, r⟩ := hl
    exact ⟨⟨_, Heap.get?_push_size _ rfl, rfl, rfl⟩, ⟨o, Heap.get?_push_of_some _ ho, r⟩⟩
  · intro b hb hne
    have : b = a := by
      rcases List.mem_cons.mp hb with e | e
      · exact absurd e hne
      · exact List.mem_singleton.mp e
    subst this
    exact ⟨_, hat⟩
  · intro i v m₁ news₁ reg₁ h tk hi hP hJ₁ F₁ N₁
    exact turn i v m₁ news₁ reg₁ h tk (by simpa using hP) hJ₁ F₁ N₁
  · intro m₁ news₁ reg₁ h tk hJ₁ F₁ N₁
    exact done m₁ news₁ reg₁ h tk (by simpa using hJ₁) F₁ N₁
  · rintro i v Q' E' s' ⟨⟨o, h1, h2, h3⟩, _⟩ hq
    subst htg
    unfold letOwnedTupleGo
    cases v with
    | ref b =>
      refine wpAny_bind (wpAny_load h1 ?_)
      rw [h2, h3]
      show wpAny _ A (if (["enumerate", "zip", "dict_itemiterator", "dict_reverseitemiterator", "odict_iterator", "itertools.zip_longest", "itertools.pairwise"].contains "tuple_iterator" && _) = true then _ else _) _ _ _
      rw [if_neg (by
        intro h
        rw [show (["enumerate", "zip", "dict_itemiterator", "dict_reverseitemiterator", "odict_iterator", "itertools.zip_longest", "itertools.pairwise"].contains "tuple_iterator") = false from by decide, Bool.false_and] at h
        cases h)]
      exact wpAny_pure hq
    | _ => exact wpAny_pure hq
end
end
set_option compiler.extract_closed false
section
variable {M : Model} {A : Around} {E : Value → Shared → Prop} {s : Shared} {h₀ : Heap} {L a : Addr} {m : Str → Option Value} {cn : Str} {cs : Scope} {ccd : Value} {cl : List (Str × Addr)}
  {x : Str} {v : Value} {Q : Unit → Shared → Prop} {news : List (Addr × Obj)}
theorem storeM (F : Fr h₀ L s.heap m) (N : News h₀ L s.heap news) (hk : cs.kind = .function) (hx : (envX cn cs L a ccd cl).kindOf x = some .local)
    (h : ∀ h', let mm := (fun y => if y = x then some v else m y); Fr h₀ L h' mm → News h₀ L h' news → Q () { s with heap := h', toks := s.toks + 1 }) : wpAny M A (storeName (envX cn cs L a ccd cl) x v) Q E s := storeX_L F N h hk hx
end
theorem rm {a i c b lim : Nat} (h : a + b < lim) (k : Nat.ble (i + c) b = true) : a + i + c < lim := by have := Nat.le_of_ble_eq_true k; omega
theorem rm0 {a c b lim : Nat} (h : a + b < lim) (k : Nat.ble c b = true) : a + c < lim := by have := Nat.le_of_ble_eq_true k; omega
theorem rm00 {a b lim : Nat} (h : a + b < lim) : a < lim := by omega
local macro_rules | `(tactic| walk_at "storeName") => `(tactic| (k_dflt (refine storeM (by k_asm) (by k_asm) rfl rfl ?_); intro h'; walk_at "MM"; intro F' N'; try k_sweep))
set_option hygiene false in
local macro_rules | `(tactic| walk_at "NR") => `(tactic| first | exact id | exact Nat.ne_of_beq_eq_false rfl | exact rg_ne rfl | exact rg_lo rfl | exact rg_hi rfl | exact rs_no rfl | exact rs_lo rfl | exact rg_big (by assumption) rfl | exact rg_bigh (by assumption) rfl | exact rs_big (by assumption) rfl)
set_option hygiene false in
local macro_rules | `(tactic| walk_at "NA") => `(tactic| first | exact off_no | exact off_rs rfl | exact off_rg rfl | exact off_hi rfl | exact off_big (by assumption) rfl)
set_option hygiene false in
local macro_rules | `(tactic| walk_at "MM") => `(tactic| intro mm)
local macro_rules | `(tactic| walk_at "NM") => `(tactic| (with_reducible rename Fr _ _ _ _ => kG))
set_option hygiene false in
local macro_rules | `(tactic| walk_at "FQ") => `(tactic| refine' (let qk := _; (?_ : wpAny _ _ _ qk _ _)))
set_option hygiene false in
local macro_rules | `(tactic| show $t) => `(tactic| refine (?_ : $t))
inductive Fld : {α : Type} → Sem α → Prop
  | a {x y z p e} : Fld (eval (Expr.Call x y z p) e) | b {x y z p e} : Fld (eval (Expr.BinOp x y z p) e) | c {x y p e} : Fld (eval (Expr.Subscript x y p) e) | d {x y p e} : Fld (eval (Expr.Attribute x y p) e)
  | e {x y z p e} : Fld (eval (Expr.Compare x y z p) e)
inductive Stp : {α : Type} → Sem α → Prop
  | a {n x} : Stp (call (Value.builtin n) x) | b {n x} : Stp (call (Value.ref n) x) | c {n x} : Stp (call (Value.type n) x) | d {x y z} : Stp (setItem x y z) | e {x} : Stp (pyIter x)
  | f {x y} : Stp (binaryOp Operator.Add (Value.ref x) (Value.ref y)) | g {x y} : Stp (compareOp CmpOp.In x y) | h {x y} : Stp (compareOp CmpOp.Eq (Value.ref x) y) | i {x y} : Stp (compareOp CmpOp.NotEq (Value.ref x) y)
  | l {n q v x y} : Stp (subscriptTail (Expr.Name n q) v (Value.ref x) y)
  | j {x y} : Stp (compareOp CmpOp.NotIn x y) | k {x y z p e} : Stp (exec (Stmt.While x y z p) e)
inductive Ntn : Expr → Prop
  | a {y5 y6 y7} : Ntn (Expr.Attribute y5 y6 y7) | b {y5 y6 y7} : Ntn (Expr.Subscript y5 y6 y7) | c {y5 y6 y7 y8} : Ntn (Expr.Call y5 y6 y7 y8)
theorem kbaT {w : World} {A : Around} {E : Value → Shared → Prop} {s : Shared} {u i : Expr} {o j : Value} {Q : Value → Shared → Prop} (_ : Ntn u) (h : wpAny (model PG w) A (subscriptTail (Expr.Name (Str.ofString "_") ⟨0, 0, 0, 0⟩) i o j) Q E s) : wpAny (model PG w) A (subscriptTail u i o j) Q E s := kba_turn (fun _ => rfl) h
theorem fldG {α : Type} {M : Model} {A : Around} {t : Sem α} {Q : α → Shared → Prop} {E : Value → Shared → Prop} {s : Shared} (_ : Fld t) (h : wpAny M A t Q E s) : wpAny M A t Q E s := h
theorem stpG {α : Type} {M : Model} {A : Around} {t : Sem α} {Q : α → Shared → Prop} {E : Value → Shared → Prop} {s : Shared} (_ : Stp t) (h : wpAny M A t Q E s) : wpAny M A t Q E s := h
set_option hygiene false in
local macro_rules | `(tactic| walk_at "S") => `(tactic| repeat' (first | ((try k_unmd); k_unfold; (try dsimp only)) | ((fail_if_success (fail_if_success (with_reducible (refine' fldG ?yf ?_; (case yf => constructor))))); (fail_if_success (fail_if_success k_fold)); walk_at "FQ") | ((try dsimp only); first | ((with_reducible show wpAny _ _ (eval (Expr.Name _ _) _) _ _ _); k_dflt (refine' nameX_L ?ya ?yb ?_ ?yc ?yd; (case ya => k_asm); (case yb | yc | yd => exact rfl))) | ((with_reducible show wpAny _ _ (subscriptTail _ _ (Value.ref _) (Value.int _ _)) _ _ _); k_dflt (first | (refine item_nat (by k_asm) (by k_mem) ‹_› (by first | assumption | omega) (by omega) ?_ (by with_unfolding_all rfl); intro _) | refine item_ref (by k_asm) (by k_mem) (by first | assumption | omega) (by omega) ?_ (by with_unfolding_all rfl) | refine item_tupleT (News.isTup (by k_asm) (by k_mem)) (by decide) (by decide) rfl rfl ?_)) | ((fail_if_success (with_reducible (refine' stpG ?yf ?_; (case yf => constructor)))); first | ((with_reducible show wpAny _ _ (eval (Expr.Name _ _) (compEnvC _ _ _ _)) _ _ _); k_dflt (first | refine cname_loc ‹_› ‹_› ?_ rfl rfl (by decide) | refine cname_cell (by k_asm) (by k_mem) ‹_› ?_ rfl rfl rfl (by decide))) | ((with_reducible refine' wpAny_For ?_ ?ys); (case ys => intro _; with_unfolding_all rfl)) | ((with_reducible refine' comp_open ?ya ?yb ?yc ?_ ?yd); (case ya => with_unfolding_all rfl); (case yb => rfl); (case yc => decide); (case yd => intro _; with_unfolding_all rfl)) | (with_reducible refine' kbaT ?yf ?_; (case yf => constructor)) | walk1)) | (leave1; try dsimp only) | fail "no step"))
set_option hygiene false in
local macro_rules | `(tactic| walk_at "WhileStep2") => `(tactic| (fail "mine"))
set_option hygiene false in
local macro_rules | `(tactic| k_mem) => `(tactic| (refine' List.mem_cons_of_mem _ ?_; k_mem))
local macro_rules | `(tactic| k_in) => `(tactic| exact Frag.In.keeps (by k_asm) (Fr.keep (by k_asm)))
set_option hygiene false in
local macro_rules | `(tactic| k_room) => `(tactic| ktr_room)
set_option hygiene false in
local macro_rules | `(tactic| walk_at "ROOM") => `(tactic| first | exact rm ‹_› rfl | exact rm0 ‹_› rfl | exact rm00 ‹_› | (dsimp (zetaDelta := true) only [ktrTop, Around.deeper, Around.in1, Around.mark]; omega) | ktr_room | ktr_units | decide)
section
variable {w : World} {mean : ExcName → Option Value} {mg mb : Str → Option Value}
noncomputable def Lots (news : Led) (reg : Reg) (k : Nat) (as : List Addr) (lens : Nat → Nat) : Prop :=
  ∀ i a, as[i]? = some a → ∃ ls c, (a, PySem.W.listOf (ls : List Value).toArray c) ∈ news ∧ reg a = k ∧ ls.length = lens i
theorem Lots.gr {R reg news reg' news' k as lens} (h : Lots news reg k as lens) (g : Gw R reg news reg' news') (n : ¬ R k) : Lots news' reg' k as lens := fun i a hi => by
  obtain ⟨ls, c, b1, b2, b3⟩ := h i a hi
  exact ⟨ls, c, g.at b1 b2 n, g.regw b1 b2 n, b3⟩
noncomputable abbrev udo (w : World) (t1 t2 t3 : Tok) (la ll lm : Addr) : Obj := dictOf [⟨HK w "above", .str "above" t1, .ref la⟩, ⟨HK w "lots", .str "lots" t2, .ref ll⟩, ⟨HK w "merged", .str "merged" t3, .ref lm⟩] 3
structure UniOk (w : World) (news : Led) (reg : Reg) (o : Nat) (u : Addr) (up : List Nat) (ud la ll lm : Addr) (t1 t2 t3 : Tok) (ca cl cm : Nat) (vs : List Value) (as : List Addr) (mv : List Value) (lens : Nat → Nat) : Prop where
  a1 : (u, instObj 263 ud) ∈ news
  a2 : (ud, udo w t1 t2 t3 la ll lm) ∈ news
  a3 : reg ud = 1
  a4 : (la, PySem.W.listOf (vs : List Value).toArray ca) ∈ news
  a5 : reg la = o + 5
  a6 : IntsAre vs (nats up)
  a7 : (ll, PySem.W.listOf ((as : List Addr).map Value.ref).toArray cl) ∈ news
  a8 : reg ll = o + 6
  a9 : as.length = up.length
  a10 : as.Nodup
  a11 : Lots news reg (o + 7) as lens
  a12 : rsum up lens up.length ≤ up.length
  a13 : (lm, PySem.W.listOf (mv : List Value).toArray cm) ∈ news
  a14 : reg lm = o + 8
  a15 : mv.length + rsum up (fun _ => 1) up.length ≤ up.length
  a16 : Wup up
set_option genInjectivity false in
set_option genSizeOf false in
structure UA where
  (ud la ll lm : Addr) (t1 t2 t3 : Tok) (ca cl cm : Nat) (vs : List Value) (as : List Addr) (mv : List Value) (lens : Nat → Nat)
noncomputable def UniR (w : World) (news : Led) (reg : Reg) (o : Nat) (u : Addr) (up : List Nat) : Prop := ∃ A : UA, UniOk w news reg o u up A.ud A.la A.ll A.lm A.t1 A.t2 A.t3 A.ca A.cl A.cm A.vs A.as A.mv A.lens
theorem UniR.gr {R reg news reg' news' o u up} (h : UniR w news reg o u up) (g : Gw R reg news reg' news') (n1 : ¬ R 1) (n5 : Off R o [5, 6, 7, 8]) : UniR w news' reg' o u up := by
  obtain ⟨⟨ud, la, ll, lm, t1, t2, t3, ca, cl, cm, vs, as, mv, lens⟩, a⟩ := h
  dsimp only at a
  have m5 := n5 5 rfl
  have m6 := n5 6 rfl
  have m7 := n5 7 rfl
  have m8 := n5 8 rfl
  exact ⟨⟨ud, la, ll, lm, t1, t2, t3, ca, cl, cm, vs, as, mv, lens⟩, ⟨g.inst a.a1, g.at a.a2 a.a3 n1, g.regw a.a2 a.a3 n1, g.at a.a4 a.a5 m5, g.regw a.a4 a.a5 m5, a.a6, g.at a.a7 a.a8 m6, g.regw a.a7 a.a8 m6, a.a9, a.a10, a.a11.gr g m7, a.a12, g.at a.a13 a.a14 m8, g.regw a.a13 a.a14 m8, a.a15, a.a16⟩⟩
theorem UniR.inst {news reg o u up} (h : UniR w news reg o u up) : ∃ A : UA, (u, instObj 263 A.ud) ∈ news ∧ (A.ud, udo w A.t1 A.t2 A.t3 A.la A.ll A.lm) ∈ news :=
  h.elim fun A a => ⟨A, a.a1, a.a2⟩
theorem UniR.wup {news reg o u up} (h : UniR w news reg o u up) : Wup up := by
  obtain ⟨⟨ud, la, ll, lm, t1, t2, t3, ca, cl, cm, vs, as, mv, lens⟩, a⟩ := h
  dsimp only at a
  exact a.a16
theorem find_ctr (o : Nat) (u : Addr) (up : List Nat) (x : Nat) (t : Tok) : RCtr w mean mg mb 220 1 40 [.ref u, .int x t]
   (fun news reg => UniR w news reg o u up ∧ x < up.length) (fun r => ∃ t, r = .int (root up x) t) := by
  unfold RCtr
  k_fill
  intro dp un gd cn cs a₀ ccd cl outer A₀ base h₀ L m news reg s Q E B F X N T hk hpre hdp hun hret
  refine bc fun z9 => ?_
  obtain ⟨⟨⟨ud, la, ll, lm, t1, t2, t3, ca, cl', cm, vs, as, mv, lens⟩, a⟩, hx⟩ := hpre
  refine z9 ?_; clear z9; try k_unmd
  dsimp only at a
  refine bc fun z9 => ?_
  obtain ⟨a1, a2, a3, a4, a5, a6, a7, a8, a9, a10, a11, a12, a13, a14, a15, a16⟩ := a
  refine z9 ?_; clear z9; try k_unmd
  have hlen := a16.len
  k_dflt ktr_enter
  refine' (let AA := _; let EE := _; (?_ : wpAny _ AA _ _ EE _))
  walk1
  walk1
  rename_i g1 L1 h1 FG F' N' B' X' T'
  refine' While_inv2 (n₀ := x) (news := news) (fun (n : Nat) (m₁ : Str → Option Value) (news₁ : Led) => news₁ = news ∧ ∃ (y : Nat) (t : Tok), n = y ∧ m₁ = (fun (z : Str) => List.lookup z [(("a" : Str), Value.int (y : Int) t), ("self", Value.ref u)]) ∧ root up y = root up x ∧ y < up.length) ?k1 ?k2 ?k3 ?_ ?k5
  (case k1 => exact F'); (case k2 => exact N')
  (case k3 => exact ⟨rfl, x, t, rfl, rfl, rfl, hx⟩)
  (case k5 => passes_own)
  clear F' N'
  rintro n m₁ news₁ h₁ tk₁ F₁ N₁ ⟨rfl, y, t, rfl, rfl, hr, hy⟩
  walk_at "S"
  · rename_i hne _ _
    have hle := a16.le n
    have hlt : up.getD n 0 < n := by omega
    exact ⟨_, _, _, _, up.getD n 0, rfl, (by k_asm), (by k_asm), hlt, rfl, up.getD n 0, _, rfl, look_put, (root_step hlt).trans hr, by omega⟩
  · rename_i he _ _ _
    refine hret _ _ _ (by k_asm) (by k_asm) ⟨t, ?_⟩
    rw [← hr, root, dif_neg (by omega)]
theorem make_ctr (o : Nat) (u : Addr) (up : List Nat) : Ctr w mean mg mb 206 1 40 [.ref u]
   (fun news reg => UniR w news reg o u up ∧ up.length < 500)
   (fun news reg r news' reg' => (∃ t, r = .int (up.length : Int) t) ∧ UniR w news' reg' o u (up ++ [up.length]) ∧ Gr (RS o [5, 6, 7, 8]) reg news reg' news') := by
  unfold Ctr
  k_fill
  intro dp un gd cn cs a₀ ccd cl outer A₀ base h₀ L m news reg s Q E B F X N T hk hpre hdp hun hret
  refine bc fun z9 => ?_
  obtain ⟨⟨⟨ud, la, ll, lm, t1, t2, t3, ca, cl', cm, vs, as, mv, lens⟩, a⟩, hx⟩ := hpre
  refine z9 ?_; clear z9; try k_unmd
  dsimp only at a
  refine bc fun z9 => ?_
  obtain ⟨a1, a2, a3, a4, a5, a6, a7, a8, a9, a10, a11, a12, a13, a14, a15, a16⟩ := a
  refine z9 ?_; clear z9; try k_unmd
  have hlen := a16.len
  have hvl : vs.length = up.length := by have := a6.length; simpa [nats] using this
  k_dflt ktr_enter
  refine' (let AA := _; let EE := _; (?_ : wpAny _ AA _ _ EE _))
  walk_at "S"
  refine len_N (by k_asm) a4 hvl (by omega) fun tk1 tk2 => ?_
  walk_at "S"
  refine append_N (r := o + 5) (reg := reg) (by k_asm) (by k_asm) a4 a5 (by rw [sizeLine_eq]; omega) fun h2 news2 F2 N2 g2 m2 => ?_
  k_sweep
  have gw9 := g2.toGw
  replace a1 := gw9.inst a1
  have t9 := gw9.regw a2 a3 (by walk_at "NR"); replace a2 := gw9.at a2 a3 (by walk_at "NR"); replace a3 := t9; clear t9
  have t9 := gw9.regw a7 a8 (by walk_at "NR"); replace a7 := gw9.at a7 a8 (by walk_at "NR"); replace a8 := t9; clear t9
  have t9 := gw9.regw a13 a14 (by walk_at "NR"); replace a13 := gw9.at a13 a14 (by walk_at "NR"); replace a14 := t9; clear t9
  replace a11 := a11.gr gw9 (by walk_at "NR")
  clear gw9
  walk_at "S"
  refine len_N (n := up.length) (by k_asm) a7 (by simpa using a9) (by omega) fun tk3 tk4 => ?_
  walk_at "S"
  rename_i l' h3 F3 N3 l3
  have hnot : l' ∉ as := fun hm => by
    refine bc fun z9 => ?_
    obtain ⟨i, hi⟩ := List.mem_iff_getElem?.mp hm
    refine ex2 (a11 i l' hi) fun ls c h9 => ?_; refine el2 h9 fun b1 _ => ?_; clear h9
    refine z9 ?_; clear z9; try k_unmd
    exact absurd (l3 _ b1) (Nat.lt_irrefl _)
  refine bc fun z9 => ?_
  obtain ⟨reg3, g3, ml⟩ := Gr.fresh (R := fun _ => False) (reg := reg) (k := o + 7) (o := lisO [Value.int (up.length : Int) tk3] 0) l3
  refine z9 ?_; clear z9; try k_unmd
  replace m2 := g3.both m2 a5 (by walk_at "NR"); replace a5 := m2.2; replace m2 := m2.1
  have gw9 := g3.toGw
  replace a1 := gw9.inst a1
  have t9 := gw9.regw a2 a3 (by walk_at "NR"); replace a2 := gw9.at a2 a3 (by walk_at "NR"); replace a3 := t9; clear t9
  have t9 := gw9.regw a7 a8 (by walk_at "NR"); replace a7 := gw9.at a7 a8 (by walk_at "NR"); replace a8 := t9; clear t9
  have t9 := gw9.regw a13 a14 (by walk_at "NR"); replace a13 := gw9.at a13 a14 (by walk_at "NR"); replace a14 := t9; clear t9
  replace a11 := a11.gr gw9 (by walk_at "NR")
  clear gw9
  refine append_N (r := o + 6) (reg := reg3) (by k_asm) (by k_asm) a7 a8 (by rw [sizeLine_eq]; simp; omega) fun h4 news4 F4 N4 g4 m4 => ?_
  k_sweep
  have mm := g4.both (.head _) ml (by walk_at "NR")
  have gw9 := g4.toGw
  replace a1 := gw9.inst a1
  have t9 := gw9.regw a2 a3 (by walk_at "NR"); replace a2 := gw9.at a2 a3 (by walk_at "NR"); replace a3 := t9; clear t9
  have t9 := gw9.regw m2 a5 (by walk_at "NR"); replace m2 := gw9.at m2 a5 (by walk_at "NR"); replace a5 := t9; clear t9
  have t9 := gw9.regw a13 a14 (by walk_at "NR"); replace a13 := gw9.at a13 a14 (by walk_at "NR"); replace a14 := t9; clear t9
  replace a11 := a11.gr gw9 (by walk_at "NR")
  clear gw9
  replace a8 := g4.reg' a7 a8
  walk_at "S"
  refine len_N (n := up.length + 1) (by k_asm) m2 (by simp [hvl]) (by omega) fun tk5 tk6 => ?_
  walk_at "S"
  refine hret _ news4 reg3 _ _ (by k_asm) (by k_asm) ⟨⟨_, by (congr 1; omega)⟩, ?_, ?_⟩
  · have hW : Wup (up ++ [up.length]) := ⟨fun i => by
      rcases Nat.lt_trichotomy i up.length with h | h | h
      · rw [getD_snoc_lt h]; exact a16.le i
      · rw [h, getD_snoc_eq]; exact Nat.le_refl _
      · simp [List.getD_eq_getElem?_getD]
        rw [List.getElem?_eq_none (by simp; omega)]
        exact Nat.zero_le _, by simp; omega⟩
    refine ⟨⟨ud, la, ll, lm, t1, t2, t3, _, _, cm, _, as ++ [l'], mv, fun i => if i = up.length then 1 else lens i⟩, ⟨a1, a2, a3, m2, a5, ?_, by simpa using m4, a8, by simp [a9], ?_, ?_, ?_, a13, a14, ?_, hW⟩⟩
    all_goals (try dsimp only)
    · have := a6.append (.cons (up.length : Int) tk1 .nil)
      simpa [nats] using this
    · rw [List.nodup_append]
      refine ⟨a10, by simp, fun a ha b hb e => ?_⟩
      obtain rfl := List.mem_singleton.mp hb
      exact hnot (e ▸ ha)
    · intro i a hi
      rcases Nat.lt_trichotomy i as.length with h | h | h
      · rw [List.getElem?_append_left h] at hi
        refine bc fun z9 => ?_
        refine ex2 (a11 i a hi) fun ls c h9 => ?_; refine el3 h9 fun b1 b2 b3 => ?_; clear h9
        refine z9 ?_; clear z9; try k_unmd
        exact ⟨ls, c, b1, b2, by dsimp only; rw [if_neg (by omega)]; exact b3⟩
      · subst h
        simp at hi
        subst hi
        exact ⟨_, _, mm.1, mm.2, by dsimp only; rw [if_pos a9]; rfl⟩
      · rw [List.getElem?_eq_none (by simp; omega)] at hi
        cases hi
    · rw [List.length_append, List.length_singleton, rsum, getD_snoc_eq, if_pos rfl, if_pos rfl]
      rw [rsum_snoc (Nat.le_refl _) (f := lens) (fun i hi _ => by rw [if_neg (by omega)])]
      omega
    · rw [List.length_append, List.length_singleton, rsum, getD_snoc_eq, if_pos rfl, rsum_snoc (Nat.le_refl _) (f := fun _ => 1) (fun i hi _ => rfl)]
      omega
  · exact Gr.trans (g2.rs rfl) (Gr.trans g3.no (g4.rs rfl))
end
section
variable {w : World} {mean : ExcName → Option Value} {mg mb : Str → Option Value}
noncomputable def mergeUp (up : List Nat) (a b : Nat) : List Nat := if root up a = root up b then up else up.set (max (root up a) (root up b)) (min (root up a) (root up b))
theorem mm_lt {a b : Nat} (h : a ≠ b) : min a b < max a b := by omega
theorem mm_k {a b x n : Nat} (h : a ≤ x) (hx : x < n) : min a b < n := by omega
theorem mm_g {a b x y n : Nat} (h : a ≤ x) (hx : x < n) (h' : b ≤ y) (hy : y < n) : max a b < n := by omega
theorem mm_e {a b : Nat} (h : ((min a b : Nat) : Int) = ((max a b : Nat) : Int)) : a = b := by omega
theorem mm_n {a b : Nat} (h : ((min a b : Nat) : Int) ≠ ((max a b : Nat) : Int)) : a ≠ b := by omega
theorem mm_min {a b : Nat} : min a b = a ∨ min a b = b := by omega
theorem mm_max {a b : Nat} : max a b = a ∨ max a b = b := by omega
theorem lt62 {k n : Nat} (h : n ≤ 500) (hk : k < n) : k < 2 ^ 62 := by omega
theorem merge_ctr (o : Nat) (u : Addr) (up : List Nat) (a b : Nat) (ta tb : Tok) : Ctr w mean mg mb 227 2 80 [.ref u, .int a ta, .int b tb]
   (fun news reg => UniR w news reg o u up ∧ a < up.length ∧ b < up.length)
   (fun news reg r news' reg' => UniR w news' reg' o u (mergeUp up a b) ∧ Gr (RS o [5, 6, 7, 8]) reg news reg' news' ∧
     if root up a = root up b then r = .none else ∃ t c t1 t2, r = .ref t ∧ (t, tupO [.int (min (root up a) (root up b) : Nat) t1, .int (max (root up a) (root up b) : Nat) t2] c) ∈ news') := by
  unfold Ctr
  k_fill
  intro dp un gd cn cs a₀ ccd cl outer A₀ base h₀ L m news reg s Q E B F X N T hk hpre hdp hun hret
  refine bc fun z9 => ?_
  refine el3 hpre fun hU hx hy => ?_; try clear hpre
  refine z9 ?_; clear z9; try k_unmd
  have hU' := hU
  refine bc fun z9 => ?_
  obtain ⟨⟨ud, la, ll, lm, t1, t2, t3, ca, cl', cm, vs, as, mv, lens⟩, a'⟩ := hU'
  refine z9 ?_; clear z9; try k_unmd
  dsimp only at a'
  refine bc fun z9 => ?_
  obtain ⟨a1, a2, a3, a4, a5, a6, a7, a8, a9, a10, a11, a12, a13, a14, a15, a16⟩ := a'
  refine z9 ?_; clear z9; try k_unmd
  have hlen := a16.len
  have hvl : vs.length = up.length := by have := a6.length; simpa [nats] using this
  k_dflt ktr_enter
  refine' (let AA := _; let EE := _; let TT : Nat := _; (?_ : wpAny _ AA _ _ EE ⟨_, _, _, TT, _⟩))
  with_reducible rename Fr _ _ _ _ => kF
  refine' (let mm : Str → Option Value := _; (fun (kF : Fr _ _ _ mm) => ?_) kF); try k_unmd
  walk_at "NM"
  walk_at "S"
  try k_fold
  k_dflt (refine' RCtr.use (find_ctr o u up a _) ?B ?F ?X ?N ?T ?k ?pre ?d ?u ?_)
  (case B | F | X | N | T => k_asm); (case k => first | exact rfl | assumption); (case d | u => walk_at "ROOM")
  (case pre => exact ⟨hU, hx⟩)
  intro r' h' tk' F' N' hp'; (try k_sweep); (first | (obtain ⟨t', e'⟩ := hp'; subst e') | (have e' := hp'; subst e')); (try dsimp only); (try k_fold)
  walk_at "S"
  try k_fold
  k_dflt (refine' RCtr.use (find_ctr o u up b _) ?B ?F ?X ?N ?T ?k ?pre ?d ?u ?_)
  (case B | F | X | N | T => k_asm); (case k => first | exact rfl | assumption); (case d | u => walk_at "ROOM")
  (case pre => exact ⟨hU, hy⟩)
  intro r' h' tk' F' N' hp'; (try k_sweep); (first | (obtain ⟨t', e'⟩ := hp'; subst e') | (have e' := hp'; subst e')); (try dsimp only); (try k_fold)
  walk_at "S"
  refine sort2n_N (by k_asm) (by k_asm) (.head _) fun h2 l2 tk1 tk2 c2 F2 N2 lt2 => ?_
  k_sweep
  walk_at "S"
  · rename_i he _ _ _ _
    have he' : root up a = root up b := by first | exact mm_e he | omega
    refine hret _ news reg _ _ (by k_asm) (by rename News _ _ _ _ => N5; exact fun p hp => N5 p (.tail _ (.tail _ hp))) ⟨?_, Gr.refl, ?_⟩
    · unfold mergeUp; rw [if_pos he']; exact hU
    · rw [if_pos he']
  rename_i hne
  have hab : root up a ≠ root up b := by first | exact mm_n hne | omega
  rename News _ _ _ _ => N5
  replace N5 : News _ _ _ news := fun p hp => N5 p (.tail _ (.tail _ hp))
  have hk : min (root up a) (root up b) < up.length := mm_k (root_le up a) hx
  have hg : max (root up a) (root up b) < up.length := mm_g (root_le up a) hx (root_le up b) hy
  refine setat_N (r := o + 5) (reg := reg) (by k_asm) N5 a4 a5 (by rw [hvl]; exact hg) (by first | exact lt62 hlen hg | omega) fun h6 news6 F6 N6 g6 m6 => ?_
  k_sweep
  have gw9 := g6.toGw
  replace a1 := gw9.inst a1
  have t9 := gw9.regw a2 a3 (by walk_at "NR"); replace a2 := gw9.at a2 a3 (by walk_at "NR"); replace a3 := t9; clear t9
  have t9 := gw9.regw a7 a8 (by walk_at "NR"); replace a7 := gw9.at a7 a8 (by walk_at "NR"); replace a8 := t9; clear t9
  have t9 := gw9.regw a13 a14 (by walk_at "NR"); replace a13 := gw9.at a13 a14 (by walk_at "NR"); replace a14 := t9; clear t9
  replace a11 := a11.gr gw9 (by walk_at "NR")
  clear gw9
  replace a5 := g6.reg' a4 a5
  have hne2 : as.getD (max (root up a) (root up b)) 0 ≠ as.getD (min (root up a) (root up b)) 0 := by
    intro e
    have h1 : as[max (root up a) (root up b)]? = some (as.getD (max (root up a) (root up b)) 0) := by simp [a9, hg]
    have h2 : as[min (root up a) (root up b)]? = some (as.getD (min (root up a) (root up b)) 0) := by simp [a9, hk]
    rw [e, ← h2] at h1
    have := (List.getElem?_inj (by rw [a9]; exact hg) a10).mp h1
    exact absurd this.symm (Nat.ne_of_lt (mm_lt hab))
  refine bc fun z9 => ?_
  refine ex2 (a11 (min (root up a) (root up b)) (as.getD (min (root up a) (root up b)) 0) (by simp [a9, hk])) fun lk ck h9 => ?_; refine el3 h9 fun b1 b2 b3 => ?_; clear h9
  refine ex2 (a11 (max (root up a) (root up b)) (as.getD (max (root up a) (root up b)) 0) (by simp [a9, hg])) fun lg cg h9 => ?_; refine el3 h9 fun d1 d2 d3 => ?_; clear h9
  refine z9 ?_; clear z9; try k_unmd
  have er : ∀ c, (c = root up a ∨ c = root up b) → up.getD c 0 = c := by
    rintro c (rfl | rfl) <;> exact root_root a16 _
  have erk := er (min (root up a) (root up b)) mm_min
  have erg := er (max (root up a) (root up b)) mm_max
  have hlens := rsum_two (f := lens) hk hg (by first | exact Nat.ne_of_lt (mm_lt hab) | exact (Nat.ne_of_lt (mm_lt hab)).symm | omega) erk erg
  walk_at "S"
  refine extend_N (r := o + 7) (reg := reg) (by k_asm) (by k_asm) b1 d1 hne2 b2 (by rw [sizeLine_eq]; omega) fun h7 news7 c7 F7 N7 g7 m7 => ?_
  k_sweep
  replace m6 := g7.both m6 a5 (by walk_at "NR"); replace a5 := m6.2; replace m6 := m6.1
  have gw9 := g7.toGw
  replace a1 := gw9.inst a1
  have t9 := gw9.regw a2 a3 (by walk_at "NR"); replace a2 := gw9.at a2 a3 (by walk_at "NR"); replace a3 := t9; clear t9
  have t9 := gw9.regw a7 a8 (by walk_at "NR"); replace a7 := gw9.at a7 a8 (by walk_at "NR"); replace a8 := t9; clear t9
  have t9 := gw9.regw a13 a14 (by walk_at "NR"); replace a13 := gw9.at a13 a14 (by walk_at "NR"); replace a14 := t9; clear t9
  clear gw9
  replace a11 : Lots news7 reg (o + 7) as (fun i => if i = min (root up a) (root up b) then lens (min (root up a) (root up b)) + lens (max (root up a) (root up b)) else lens i) := by
    intro i x hi
    by_cases e : i = min (root up a) (root up b)
    · have hx : x = as.getD (min (root up a) (root up b)) 0 := by rw [← e]; simp [hi]
      rw [hx]
      exact ⟨_, _, m7, b2, by simp [e, b3, d3]⟩
    · obtain ⟨ls, c, q1, q2, q3⟩ := a11 i x hi
      refine ⟨ls, c, g7.pt _ q1 ?_, q2, by simp [e, q3]⟩
      intro e2
      have h2 : as[min (root up a) (root up b)]? = some (as.getD (min (root up a) (root up b)) 0) := by simp [a9, hk]
      rw [← e2, ← hi] at h2
      exact e ((List.getElem?_inj (by rw [a9]; exact hk) a10).mp h2).symm
  walk_at "S"
  rename_i D8 h8 F8 N8 l8
  refine append_N (r := o + 8) (reg := reg) (by k_asm) (by k_asm) (.tail _ a13) a14 (by rw [sizeLine_eq]; omega) fun h9 news9 F9 N9 g9 m9 => ?_
  k_sweep
  have gc : Gr (fun _ => False) reg news7 reg (_ :: news7) := Gr.cons (q := (D8, tupO [Value.int (↑(min (root up a) (root up b))) tk1, Value.int (↑(max (root up a) (root up b))) tk2] 0))
  have g79 := gc.no.trans g9.toGr
  have gw9 := g79.toGw
  replace a1 := gw9.inst a1
  have t9 := gw9.regw a2 a3 (by walk_at "NR"); replace a2 := gw9.at a2 a3 (by walk_at "NR"); replace a3 := t9; clear t9
  have t9 := gw9.regw a7 a8 (by walk_at "NR"); replace a7 := gw9.at a7 a8 (by walk_at "NR"); replace a8 := t9; clear t9
  have t9 := gw9.regw m6 a5 (by walk_at "NR"); replace m6 := gw9.at m6 a5 (by walk_at "NR"); replace a5 := t9; clear t9
  replace a11 := a11.gr gw9 (by walk_at "NR")
  clear gw9
  replace a14 := g9.reg' (.tail _ a13) a14
  walk_at "S"
  refine hret _ _ reg _ _ (by k_asm) (by k_asm) ⟨?_, ?_, ?_⟩
  · refine UniR.gr ?_ (Gr.cons (R := fun _ => False)).toGw id off_no
    unfold mergeUp
    rw [if_neg hab]
    have hW : Wup (up.set (max (root up a) (root up b)) (min (root up a) (root up b))) := ⟨fun i => by
      by_cases e : max (root up a) (root up b) = i
      · rw [← e, getD_set_eq hg]; first | exact Nat.le_of_lt (mm_lt hab) | omega
      · rw [getD_set_ne e]; exact a16.le i, by rw [List.length_set]; exact a16.len⟩
    refine ⟨⟨ud, la, ll, lm, t1, t2, t3, ca, cl', cm + 1, vs.set (max (root up a) (root up b)) (.int ((min (root up a) (root up b) : Nat) : Int) tk1), as, mv ++ [.ref D8], fun i => if i = min (root up a) (root up b) then lens (min (root up a) (root up b)) + lens (max (root up a) (root up b)) else lens i⟩, ⟨a1, a2, a3, m6, a5, ?_, a7, a8, by simp [a9], a10, a11, ?_, m9, a14, ?_, hW⟩⟩
    all_goals (try dsimp only)
    · have := ints_set (x := ((min (root up a) (root up b) : Nat) : Int)) (u := tk1) a6 (max (root up a) (root up b))
      simpa [nats, List.map_set] using this
    · rw [List.length_set]
      have := rsum_set (f := lens) (f' := fun i => if i = min (root up a) (root up b) then lens (min (root up a) (root up b)) + lens (max (root up a) (root up b)) else lens i) (c := 0)
        (mm_lt hab) erk erg (by simp) (fun i h1 _ => if_neg h1) hg (Nat.le_refl _)
      omega
    · rw [List.length_set, List.length_append]
      have := rsum_set (f := fun _ => 1) (f' := fun _ => 1) (c := 1)
        (mm_lt hab) erk erg rfl (fun i h1 _ => rfl) hg (Nat.le_refl _)
      simp
      omega
  · exact Gr.trans (g6.rs rfl) (Gr.trans (g7.rs rfl) (Gr.trans (g79.rs rfl) Gr.cons))
  · rw [if_neg hab]
    exact ⟨_, _, _, _, rfl, .head _⟩
end
section
variable {w : World} {mean : ExcName → Option Value} {mg mb : Str → Option Value}
theorem nats_dat (ks : List Nat) : ks.map natD = (nats ks).map .int := by simp [nats, natD, Function.comp_def]
structure Wbank (nodes : List Node) : Prop where
  kids : ∀ (i : Nat) (n : Node), nodes[i]? = some n → n.2.length ≤ 2 ∧ ∀ k ∈ n.2, k < i
  len : nodes.length ≤ 500
noncomputable abbrev bdo (w : World) (t1 t2 t3 t4 : Tok) (ln dn lw ld : Addr) : Obj := dictOf [⟨HK w "nodes", .str "nodes" t1, .ref ln⟩, ⟨HK w "numbers", .str "numbers" t2, .ref dn⟩, ⟨HK w "weights", .str "weights" t3, .ref lw⟩, ⟨HK w "depths", .str "depths" t4, .ref ld⟩] 4
structure BankOk (w : World) (news : Led) (reg : Reg) (o : Nat) (b : Addr) (nodes : List Node) (bd ln dn lw ld : Addr) (t1 t2 t3 t4 : Tok) (cn cw cd : Nat) (vn vw vd : List Value) (ws ds : List Int) (od : Obj) : Prop where
  b1 : (b, instObj 181 bd) ∈ news
  b2 : (bd, bdo w t1 t2 t3 t4 ln dn lw ld) ∈ news
  b3 : reg bd = 1
  b4 : (ln, lisO vn cn) ∈ news
  b5 : reg ln = o + 1
  b6 : DTs news reg vn (nodes.map ndat)
  b7 : (dn, od) ∈ news
  b8 : reg dn = o + 2
  b9 : TDict w news od (idx nodes) nodes.length
  b10 : (dn == sysModules) = false
  b11 : (lw, lisO vw cw) ∈ news
  b12 : reg lw = o + 3
  b13 : IntsAre vw ws
  b14 : ws.length = nodes.length
  b15 : (ld, lisO vd cd) ∈ news
  b16 : reg ld = o + 4
  b17 : IntsAre vd ds
  b18 : ds.length = nodes.length
  b19 : Wbank nodes
set_option genInjectivity false in
set_option genSizeOf false in
structure BA where
  (bd ln dn lw ld : Addr) (t1 t2 t3 t4 : Tok) (cn cw cd : Nat) (vn vw vd : List Value) (ws ds : List Int) (od : Obj)
noncomputable def BankR (w : World) (news : Led) (reg : Reg) (o : Nat) (b : Addr) (nodes : List Node) : Prop := ∃ A : BA, BankOk w news reg o b nodes A.bd A.ln A.dn A.lw A.ld A.t1 A.t2 A.t3 A.t4 A.cn A.cw A.cd A.vn A.vw A.vd A.ws A.ds A.od
theorem BankR.gr {R reg news reg' news' o b nodes} (h : BankR w news reg o b nodes) (g : Gw R reg news reg' news') (n1 : ¬ R 1) (n2 : ¬ R 2) (n5 : Off R o [1, 2, 3, 4]) : BankR w news' reg' o b nodes := by
  obtain ⟨⟨bd, ln, dn, lw, ld, t1, t2, t3, t4, cn, cw, cd, vn, vw, vd, ws, ds, od⟩, a⟩ := h
  dsimp only at a
  have m1 := n5 1 rfl
  have m2 := n5 2 rfl
  have m3 := n5 3 rfl
  have m4 := n5 4 rfl
  exact ⟨⟨bd, ln, dn, lw, ld, t1, t2, t3, t4, cn, cw, cd, vn, vw, vd, ws, ds, od⟩, ⟨g.inst a.b1, g.at a.b2 a.b3 n1, g.regw a.b2 a.b3 n1, g.at a.b4 a.b5 m1, g.regw a.b4 a.b5 m1, a.b6.gr g n2, g.at a.b7 a.b8 m2, g.regw a.b7 a.b8 m2, a.b9.gr g, a.b10,
    g.at a.b11 a.b12 m3, g.regw a.b11 a.b12 m3, a.b13, a.b14, g.at a.b15 a.b16 m4, g.regw a.b15 a.b16 m4, a.b17, a.b18, a.b19⟩⟩
theorem BankR.inst {news reg o b nodes} (h : BankR w news reg o b nodes) : ∃ A : BA, (b, instObj 181 A.bd) ∈ news ∧ (A.bd, bdo w A.t1 A.t2 A.t3 A.t4 A.ln A.dn A.lw A.ld) ∈ news :=
  h.elim fun A a => ⟨A, a.b1, a.b2⟩
theorem BankR.wb {news reg o b nodes} (h : BankR w news reg o b nodes) : Wbank nodes := by
  obtain ⟨⟨bd, ln, dn, lw, ld, t1, t2, t3, t4, cn, cw, cd, vn, vw, vd, ws, ds, od⟩, a⟩ := h
  dsimp only at a
  exact a.b19
theorem bank_size (o : Nat) (b : Addr) (nodes : List Node) : RCtr w mean mg mb 100 1 40 [.ref b]
   (fun news reg => BankR w news reg o b nodes) (fun r => ∃ t, r = .int (nodes.length : Int) t) := by
  unfold RCtr
  k_fill
  intro dp un gd cn cs a₀ ccd cl outer A₀ base h₀ L m news reg s Q E B F X N T hk hpre hdp hun hret
  refine bc fun z9 => ?_
  obtain ⟨⟨bd, ln, dn, lw, ld, t1, t2, t3, t4, cn, cw, cd, vn, vw, vd, ws, ds, od⟩, a⟩ := hpre
  refine z9 ?_; clear z9; try k_unmd
  dsimp only at a
  refine bc fun z9 => ?_
  obtain ⟨b1, b2, b3, b4, b5, b6, b7, b8, b9, b10, b11, b12, b13, b14, b15, b16, b17, b18, b19⟩ := a
  refine z9 ?_; clear z9; try k_unmd
  have hlen := b19.len
  have hvl : vn.length = nodes.length := by have := b6.length; simpa using this
  k_dflt ktr_enter
  refine' (let AA := _; let EE := _; let TT : Nat := _; (?_ : wpAny _ AA _ _ EE ⟨_, _, _, TT, _⟩))
  with_reducible rename Fr _ _ _ _ => kF
  refine' (let mm : Str → Option Value := _; (fun (kF : Fr _ _ _ mm) => ?_) kF); try k_unmd
  walk_at "NM"
  walk_at "S"
  refine len_N (by k_asm) b4 hvl (by omega) fun tk1 tk2 => ?_
  walk_at "S"
  exact hret _ _ _ (by k_asm) (by k_asm) ⟨_, rfl⟩
theorem bank_op (o : Nat) (b : Addr) (nodes : List Node) (n : Nat) (t : Tok) : RCtr w mean mg mb 138 1 40 [.ref b, .int n t]
   (fun news reg => BankR w news reg o b nodes ∧ n < nodes.length) (fun r => ∃ t, r = .str (nodes.getD n default).1 t) := by
  unfold RCtr
  k_fill
  intro dp un gd cn cs a₀ ccd cl outer A₀ base h₀ L m news reg s Q E B F X N T hk hpre hdp hun hret
  refine bc fun z9 => ?_
  obtain ⟨⟨⟨bd, ln, dn, lw, ld, t1, t2, t3, t4, cn, cw, cd, vn, vw, vd, ws, ds, od⟩, a⟩, hn⟩ := hpre
  refine z9 ?_; clear z9; try k_unmd
  dsimp only at a
  refine bc fun z9 => ?_
  obtain ⟨b1, b2, b3, b4, b5, b6, b7, b8, b9, b10, b11, b12, b13, b14, b15, b16, b17, b18, b19⟩ := a
  refine z9 ?_; clear z9; try k_unmd
  have hlen := b19.len
  k_dflt ktr_enter
  refine' (let AA := _; let EE := _; let TT : Nat := _; (?_ : wpAny _ AA _ _ EE ⟨_, _, _, TT, _⟩))
  with_reducible rename Fr _ _ _ _ => kF
  refine' (let mm : Str → Option Value := _; (fun (kF : Fr _ _ _ mm) => ?_) kF); try k_unmd
  walk_at "NM"
  walk_at "S"
  refine bc fun z9 => ?_
  obtain ⟨v, hv, hd⟩ := b6.get (k := n) (d := ndat (nodes.getD n default)) (by simp [hn])
  refine z9 ?_; clear z9; try k_unmd
  refine item_at (by k_asm) b4 hv (by omega) ?_
  walk_at "S"
  generalize nodes.getD n default = nd at *
  refine bc fun z9 => ?_
  cases hd with | tuple hm hr => ?_
  cases hr with | cons h1 h2 => ?_
  cases h1
  refine z9 ?_; clear z9; try k_unmd
  refine titem_at (n := 0) (by k_asm) hm rfl (by omega) ?_
  walk_at "S"
  exact hret _ _ _ (by k_asm) (by k_asm) ⟨_, rfl⟩
theorem bank_kids (o : Nat) (b : Addr) (nodes : List Node) (n : Nat) (t : Tok) : Ctr w mean mg mb 145 1 40 [.ref b, .int n t]
   (fun news reg => BankR w news reg o b nodes ∧ n < nodes.length)
   (fun news reg r news' reg' => ∃ a us, r = .ref a ∧ (a, tupO us 0) ∈ news' ∧ IntsAre us (nats (nodes.getD n default).2) ∧ Gr (fun _ => False) reg news reg' news') := by
  unfold Ctr
  k_fill
  intro dp un gd cn cs a₀ ccd cl outer A₀ base h₀ L m news reg s Q E B F X N T hk hpre hdp hun hret
  refine bc fun z9 => ?_
  obtain ⟨⟨⟨bd, ln, dn, lw, ld, t1, t2, t3, t4, cn, cw, cd, vn, vw, vd, ws, ds, od⟩, a⟩, hn⟩ := hpre
  refine z9 ?_; clear z9; try k_unmd
  dsimp only at a
  refine bc fun z9 => ?_
  obtain ⟨b1, b2, b3, b4, b5, b6, b7, b8, b9, b10, b11, b12, b13, b14, b15, b16, b17, b18, b19⟩ := a
  refine z9 ?_; clear z9; try k_unmd
  have hlen := b19.len
  k_dflt ktr_enter
  refine' (let AA := _; let EE := _; let TT : Nat := _; (?_ : wpAny _ AA _ _ EE ⟨_, _, _, TT, _⟩))
  with_reducible rename Fr _ _ _ _ => kF
  refine' (let mm : Str → Option Value := _; (fun (kF : Fr _ _ _ mm) => ?_) kF); try k_unmd
  walk_at "NM"
  walk_at "S"
  refine bc fun z9 => ?_
  obtain ⟨v, hv, hd⟩ := b6.get (k := n) (d := ndat (nodes.getD n default)) (by simp [hn])
  refine z9 ?_; clear z9; try k_unmd
  refine item_at (by k_asm) b4 hv (by omega) ?_
  walk_at "S"
  have hk := (b19.kids n (nodes.getD n default) (by simp [hn])).1
  generalize nodes.getD n default = nd at *
  refine bc fun z9 => ?_
  cases hd with | tuple hm hr => ?_
  cases hr with | cons h1 h2 => ?_
  cases h1
  refine z9 ?_; clear z9; try k_unmd
  try dsimp only
  have hl : _ = _ := h2.length
  rw [List.length_map] at hl
  try dsimp only
  refine' tslice_N ?F ?N hm ?hz ?_ ?hs ?hg
  (case F => k_asm); (case N => k_asm); (case hz => rw [sizeLine_eq]; omega); (case hs => with_unfolding_all rfl); (case hg => intro _; with_unfolding_all rfl)
  intro D h3 F3 N3 l3
  walk_at "S"
  exact hret _ _ reg _ _ (by k_asm) (by k_asm) ⟨D, _, rfl, .head _, ints_of (by rw [← nats_dat]; exact h2), Gr.cons⟩
end
section
variable {w : World} {mean : ExcName → Option Value} {mg mb : Str → Option Value}
noncomputable def roots (S : Hs) : Nat := rsum S.up (fun _ => 1) S.up.length
structure Whs (S : Hs) : Prop where
  u : Wup S.up
  len : S.up.length = S.nodes.length
  n : S.up.length ≤ 500
  par : ∀ i, ∀ k ∈ S.par i, k < S.up.length
  wait : ∀ k ∈ S.wait, k < S.up.length
  known : ∀ k v, S.known k = some v → v < S.up.length
  psum : rsum S.up (fun i => (S.par i).length) S.up.length ≤ 2 * S.up.length
  wsum : S.kc + S.wait.length + 1000 * roots S ≤ 1001 * S.up.length
  esum : S.nE + roots S ≤ S.rows.length + S.up.length
structure AbvOk (news : Led) (reg : Reg) (o : Nat) (f : Int → Option Value) (up : List Nat) (par : Nat → List Nat) : Prop where
  at_ : ∀ r, r < up.length → up.getD r 0 = r → ∃ a c us, f r = some (.ref a) ∧ (a, lisO us c) ∈ news ∧ reg a = o + 13 ∧ IntsAre us (nats (par r))
  inj : ∀ (r r' : Nat) (a : Addr), r < up.length → up.getD r 0 = r → r' < up.length → up.getD r' 0 = r' → f r = some (.ref a) → f r' = some (.ref a) → r = r'
theorem AbvOk.gr {R reg news reg' news' o f up par} (h : AbvOk news reg o f up par) (g : Gw R reg news reg' news') (n : ¬ R (o + 13)) : AbvOk news' reg' o f up par := ⟨fun r h1 h2 => by
  obtain ⟨a, c, us, q1, q2, q3, q4⟩ := h.at_ r h1 h2
  exact ⟨a, c, us, q1, g.at q2 q3 n, g.regw q2 q3 n, q4⟩, h.inj⟩
theorem two_roots {up : List Nat} {a b : Nat} (W : Wup up) (ha : a < up.length) (hb : b < up.length) (hab : root up a ≠ root up b) :
    ∃ k g, k = min (root up a) (root up b) ∧ g = max (root up a) (root up b) ∧ k < g ∧ g < up.length ∧ up.getD k 0 = k ∧ up.getD g 0 = g := by
  have h1 := root_le up a
  have h2 := root_le up b
  have h3 := root_root W a
  have h4 := root_root W b
  rcases Nat.lt_or_ge (root up a) (root up b) with q | q
  · have q' := Nat.le_of_lt q
    exact ⟨_, _, rfl, rfl, by rw [Nat.min_eq_left q', Nat.max_eq_right q']; exact q, by rw [Nat.max_eq_right q']; exact Nat.lt_of_le_of_lt h2 hb, by rw [Nat.min_eq_left q']; exact h3, by rw [Nat.max_eq_right q']; exact h4⟩
  · exact ⟨_, _, rfl, rfl, by rw [Nat.min_eq_right q, Nat.max_eq_left q]; exact Nat.lt_of_le_of_ne q hab.symm, by rw [Nat.max_eq_left q]; exact Nat.lt_of_le_of_lt h1 ha, by rw [Nat.min_eq_right q]; exact h4, by rw [Nat.max_eq_left q]; exact h3⟩
structure Fits (S : Hs) : Prop where
  e : S.nE ≤ 1000500
  kc : S.kc ≤ 600000
  wait : S.wait.length ≤ 600000
  up : S.up.length ≤ 500
theorem Whs.fits {S : Hs} (W : Whs S) (h : S.rows.length ≤ 1000000) : Fits S := by
  have h1 := W.esum
  have h2 := W.wsum
  have h3 := W.n
  exact ⟨by omega, by omega, by omega, h3⟩
theorem Whs.two {S : Hs} (W : Whs S) {k g : Nat} (hkg : k < g) (hg : g < S.up.length) (ek : S.up.getD k 0 = k) (eg : S.up.getD g 0 = g) : (S.par g).length + (S.par k).length ≤ 1000 := by
  have h1 := W.psum
  have h2 := W.n
  have := rsum_two (f := fun i => (S.par i).length) hg (Nat.lt_trans hkg hg) (Nat.ne_of_gt hkg) eg ek
  omega
noncomputable def LenL (news : Led) (reg : Reg) (k : Nat) (a : Addr) (n : Nat) : Prop := ∃ vs c, (a, lisO vs c) ∈ news ∧ reg a = k ∧ vs.length = n
noncomputable def IntL (news : Led) (reg : Reg) (k : Nat) (a : Addr) (ns : List Nat) : Prop := ∃ vs c, (a, lisO vs c) ∈ news ∧ reg a = k ∧ IntsAre vs (nats ns)
noncomputable def DatL (news : Led) (reg : Reg) (k : Nat) (a : Addr) (ds : List PyData) : Prop := ∃ vs c, (a, lisO vs c) ∈ news ∧ reg a = k ∧ DTs news reg vs ds
noncomputable def KnoR (w : World) (news : Led) (reg : Reg) (k : Nat) (d : Addr) (f : List Atom → Option Nat) (m : Nat) : Prop := ∃ o, (d, o) ∈ news ∧ reg d = k ∧ TDict w news o f m ∧ (d == sysModules) = false
noncomputable def AbvR (w : World) (news : Led) (reg : Reg) (o : Nat) (d : Addr) (up : List Nat) (par : Nat → List Nat) : Prop := ∃ oa f, (d, oa) ∈ news ∧ reg d = o + 12 ∧ IDict w oa f up.length ∧ AbvOk news reg o f up par
section
variable {R : Nat → Prop} {reg reg' : Reg} {news news' : Led} {k o : Nat} {a d : Addr}
theorem LenL.gr {n} (h : LenL news reg k a n) (g : Gw R reg news reg' news') (nk : ¬ R k) : LenL news' reg' k a n := by
  obtain ⟨vs, c, h1, h2, h3⟩ := h
  exact ⟨vs, c, g.at h1 h2 nk, g.regw h1 h2 nk, h3⟩
theorem IntL.gr {n} (h : IntL news reg k a n) (g : Gw R reg news reg' news') (nk : ¬ R k) : IntL news' reg' k a n := by
  obtain ⟨vs, c, h1, h2, h3⟩ := h
  exact ⟨vs, c, g.at h1 h2 nk, g.regw h1 h2 nk, h3⟩
theorem DatL.gr {n} (h : DatL news reg k a n) (g : Gw R reg news reg' news') (n2 : ¬ R 2) (nk : ¬ R k) : DatL news' reg' k a n := by
  obtain ⟨vs, c, h1, h2, h3⟩ := h
  exact ⟨vs, c, g.at h1 h2 nk, g.regw h1 h2 nk, h3.gr g n2⟩
theorem KnoR.gr {f m} (h : KnoR w news reg k d f m) (g : Gw R reg news reg' news') (nk : ¬ R k) : KnoR w news' reg' k d f m := by
  obtain ⟨oo, h1, h2, h3, h4⟩ := h
  exact ⟨oo, g.at h1 h2 nk, g.regw h1 h2 nk, h3.gr g, h4⟩
theorem AbvR.gr {up par} (h : AbvR w news reg o d up par) (g : Gw R reg news reg' news') (n1 : ¬ R (o + 12)) (n2 : ¬ R (o + 13)) : AbvR w news' reg' o d up par := by
  obtain ⟨oa, f, h1, h2, h3, h4⟩ := h
  exact ⟨oa, f, g.at h1 h2 n1, g.regw h1 h2 n1, h3, h4.gr g n2⟩
end
set_option genInjectivity false in
set_option genSizeOf false in
structure HI where
  (xd bb uu le lf dk da lw lr : Addr) (t1 t2 t3 t4 t5 t6 t7 t8 : Tok)
noncomputable abbrev hdo (w : World) (A : HI) : Obj := dictOf [⟨HK w "bank", .str "bank" A.t1, .ref A.bb⟩, ⟨HK w "unions", .str "unions" A.t2, .ref A.uu⟩, ⟨HK w "edges", .str "edges" A.t3, .ref A.le⟩, ⟨HK w "forest", .str "forest" A.t4, .ref A.lf⟩, ⟨HK w "known", .str "known" A.t5, .ref A.dk⟩,
    ⟨HK w "above", .str "above" A.t6, .ref A.da⟩, ⟨HK w "waiting", .str "waiting" A.t7, .ref A.lw⟩, ⟨HK w "rows", .str "rows" A.t8, .ref A.lr⟩] 8
structure HObj (w : World) (news : Led) (reg : Reg) (x : Addr) (A : HI) : Prop where
  inst : (x, instObj 449 A.xd) ∈ news
  dict : (A.xd, hdo w A) ∈ news
  one : reg A.xd = 1
theorem HObj.gr {R reg news reg' news' x A} (h : HObj w news reg x A) (g : Gw R reg news reg' news') (n1 : ¬ R 1) : HObj w news' reg' x A := ⟨g.inst h.inst, g.at h.dict h.one n1, g.regw h.dict h.one n1⟩
structure HeapOk (w : World) (news : Led) (reg : Reg) (o : Nat) (x : Addr) (S : Hs) (A : HI) : Prop where
  obj : HObj w news reg x A
  bank : BankR w news reg o A.bb S.nodes
  uni : UniR w news reg o A.uu S.up
  edges : LenL news reg (o + 9) A.le S.nE
  forest : ∃ n, LenL news reg (o + 10) A.lf n ∧ n + roots S ≤ S.up.length
  known : KnoR w news reg (o + 11) A.dk S.known S.kc
  above : AbvR w news reg o A.da S.up S.par
  wait : IntL news reg (o + 14) A.lw S.wait
  rows : DatL news reg (o + 15) A.lr (S.rows.map Row.dat)
noncomputable def HeapR (w : World) (news : Led) (reg : Reg) (o : Nat) (x : Addr) (S : Hs) : Prop := ∃ A : HI, HeapOk w news reg o x S A
noncomputable abbrev allH : List Nat := [1, 2, 3, 4, 5, 6, 7, 8, 9, 10, 11, 12, 13, 14, 15]
theorem HeapOk.gr {R reg news reg' news' o x S A} (a : HeapOk w news reg o x S A) (g : Gw R reg news reg' news') (n1 : ¬ R 1) (n2 : ¬ R 2) (n5 : Off R o allH) : HeapOk w news' reg' o x S A where
  obj := a.obj.gr g n1
  bank := a.bank.gr g n1 n2 (n5.sub rfl)
  uni := a.uni.gr g n1 (n5.sub rfl)
  edges := a.edges.gr g (n5 9 rfl)
  forest := let ⟨n, h, e⟩ := a.forest; ⟨n, h.gr g (n5 10 rfl), e⟩
  known := a.known.gr g (n5 11 rfl)
  above := a.above.gr g (n5 12 rfl) (n5 13 rfl)
  wait := a.wait.gr g (n5 14 rfl)
  rows := a.rows.gr g n2 (n5 15 rfl)
theorem HeapR.gr {R reg news reg' news' o x S} (h : HeapR w news reg o x S) (g : Gw R reg news reg' news') (n1 : ¬ R 1) (n2 : ¬ R 2) (n5 : Off R o allH) : HeapR w news' reg' o x S := by
  obtain ⟨A, a⟩ := h
  exact ⟨A, a.gr g n1 n2 n5⟩
theorem heap_find (o : Nat) (x : Addr) (S : Hs) (n : Nat) (t : Tok) : RCtr w mean mg mb 317 2 80 [.ref x, .int n t]
   (fun news reg => HeapR w news reg o x S ∧ n < S.up.length) (fun r => ∃ t, r = .int (root S.up n) t) := by
  unfold RCtr
  k_fill
  intro dp un gd cn cs a₀ ccd cl outer A₀ base h₀ L m news reg s Q E B F X N T hk hpre hdp hun hret
  refine bc fun z9 => ?_
  obtain ⟨⟨A, a⟩, hn⟩ := hpre
  refine z9 ?_; clear z9; try k_unmd
  have h1 := a.obj.inst
  have h2 := a.obj.dict
  have h5 := a.uni
  refine bc fun z9 => ?_
  refine ex1 h5.inst fun UX h9 => ?_; refine el2 h9 fun hu hu2 => ?_; clear h9
  refine z9 ?_; clear z9; try k_unmd
  clear a
  k_dflt ktr_enter
  refine' (let AA := _; let EE := _; let TT : Nat := _; (?_ : wpAny _ AA _ _ EE ⟨_, _, _, TT, _⟩))
  with_reducible rename Fr _ _ _ _ => kF
  refine' (let mm : Str → Option Value := _; (fun (kF : Fr _ _ _ mm) => ?_) kF); try k_unmd
  walk_at "NM"
  walk_at "S"
  try k_fold
  k_dflt (refine' RCtr.use (find_ctr o A.uu S.up n _) ?B ?F ?X ?N ?T ?k ?pre ?d ?u ?_)
  (case B | F | X | N | T => k_asm); (case k => first | exact rfl | assumption); (case d | u => walk_at "ROOM")
  (case pre => exact ⟨h5, hn⟩)
  intro r' h' tk' F' N' hp'; (try k_sweep); (first | (obtain ⟨t', e'⟩ := hp'; subst e') | (have e' := hp'; subst e')); (try dsimp only); (try k_fold)
  walk_at "S"
  exact hret _ _ _ (by k_asm) (by k_asm) ⟨_, rfl⟩
theorem heap_settled (o : Nat) (x : Addr) (S : Hs) : RCtr w mean mg mb 352 1 40 [.ref x]
   (fun news reg => HeapR w news reg o x S ∧ S.wait.length ≤ 1000000) (fun r => r = .bool S.wait.isEmpty) := by
  unfold RCtr
  k_fill
  intro dp un gd cn cs a₀ ccd cl outer A₀ base h₀ L m news reg s Q E B F X N T hk hpre hdp hun hret
  refine bc fun z9 => ?_
  obtain ⟨⟨A, a⟩, hn⟩ := hpre
  refine z9 ?_; clear z9; try k_unmd
  have h1 := a.obj.inst
  have h2 := a.obj.dict
  refine bc fun z9 => ?_
  refine ex2 a.wait fun vw cw h9 => ?_; refine el3 h9 fun w1 _ w3 => ?_; clear h9
  refine z9 ?_; clear z9; try k_unmd
  have hl : vw.length = S.wait.length := by have := w3.length; simpa [nats] using this
  clear a
  k_dflt ktr_enter
  refine' (let AA := _; let EE := _; let TT : Nat := _; (?_ : wpAny _ AA _ _ EE ⟨_, _, _, TT, _⟩))
  with_reducible rename Fr _ _ _ _ => kF
  refine' (let mm : Str → Option Value := _; (fun (kF : Fr _ _ _ mm) => ?_) kF); try k_unmd
  walk_at "NM"
  walk_at "S"
  refine len_N (by k_asm) w1 hl (by omega) fun tk1 tk2 => ?_
  walk_at "S"
  refine hret _ _ _ (by k_asm) (by k_asm) ?_
  cases hw : S.wait
  · rfl
  · simp; try omega
end
section
variable {w : World} {mean : ExcName → Option Value} {mg mb : Str → Option Value}
theorem take_snoc {ks : List Nat} {i k : Nat} (h : ks[i]? = some k) : ks.take (i + 1) = ks.take i ++ [k] := by
  rw [List.take_add_one, h]; rfl
theorem ints_at {us : List Value} {ks : List Nat} {i : Nat} {v : Value} (h : IntsAre us (nats ks)) (hv : us[i]? = some v) : ∃ (k : Nat) (t : Tok), v = .int (k : Int) t ∧ ks[i]? = some k := by
  have hl : us.length = ks.length := by simpa [nats] using h.length
  have hi : i < ks.length := by
    rcases Nat.lt_or_ge i us.length with q | q
    · omega
    · rw [List.getElem?_eq_none q] at hv; cases hv
  obtain ⟨t, ht⟩ := h.get i _ (nats_get hi)
  rw [hv] at ht
  exact ⟨ks.getD i 0, t, Option.some.inj ht, by simp [hi]⟩
theorem ints_snoc {ys : List Value} {ks : List Nat} {k : Nat} {t : Tok} (h : IntsAre ys (nats ks)) : IntsAre (ys ++ [.int (k : Int) t]) (nats (ks ++ [k])) := by
  have := h.append (.cons (k : Int) t .nil)
  simpa [nats] using this
noncomputable def cnode (S : Hs) (n : Nat) : Node := ((S.nodes.getD n default).1, (S.nodes.getD n default).2.map (root S.up))
theorem nkey_items {n : Node} {t : Tok} {ys : List Value} (h : IntsAre ys (nats n.2)) : ItemsAre (atomKind w) (nkey n) ([.str n.1 t] ++ ys) := by
  refine .cons (by simp [atomKind, atomIs, Value.isStrOf]) ?_
  have := items_of (w := w) (news := []) (reg := fun _ => 0) (ks := n.2.map fun (k : Nat) => (.inr (k : Int) : Atom)) (vs := ys) (by
    have := DTs.ints (news := []) (reg := fun _ => 0) h
    rw [← nats_dat] at this
    rw [List.map_map]
    exact this)
  exact this
theorem heap_node (o : Nat) (x : Addr) (S : Hs) (n : Nat) (t : Tok) (W : Whs S) : Ctr w mean mg mb 293 3 120 [.ref x, .int n t]
   (fun news reg => HeapR w news reg o x S ∧ n < S.up.length)
   (fun news reg r news' reg' => ∃ a us c, r = .ref a ∧ (a, tupO us c) ∈ news' ∧ ItemsAre (atomKind w) (nkey (cnode S n)) us ∧ Gr (fun _ => False) reg news reg' news') := by
  unfold Ctr
  k_fill
  intro dp un gd cn cs a₀ ccd cl outer A₀ base h₀ L m news reg s Q E B F X N T hk hpre hdp hun hret
  obtain ⟨hH, hn⟩ := hpre
  k_dflt (refine' code_defC ?k1 ?k2 ?k3 ?k4 ?k5 ?kA ?kF ?kK ?k6 ?k7 ?k8 ?k9 ?kB ?kD ?_ ?c2 ?c3 ?c4; (case kA => exact rfl); (case kF => exact rfl); (case kK => assumption); (case k1 => k_asm); (case k2 => k_asm); (case k3 => k_asm); (case k4 => k_asm); (case k5 => k_asm); (case k6 => k_is); (case k7 => k_is); (case k8 => ktr_room); (case k9 => exact BindsTo.of_eq rfl); (case kB => exact rfl); (case kD => decide +kernel); (case c2 => exact rfl); (case c3 => exact rfl); (case c4 => exact rfl); k_whole; intro g' L' h' tk' cells' FG' F' N' Y' B' X' T' l1; k_cells Y'; (try simp only [List.cons_append, List.nil_append] at N'); (try dsimp only); (try k_fold))
  refine' (let AA := _; let EE := _; let QQ := _; let TT : Nat := _; (?_ : wpAny _ AA _ QQ EE ⟨_, _, _, TT, _⟩))
  refine' (let mm : Str → Option Value := _; (fun (F' : Fr _ _ _ mm) => ?_) F'); try k_unmd
  rename_i o1 d1
  refine bc fun z9 => ?_
  obtain ⟨reg1, g1, rc⟩ := Gr.fresh (R := fun _ => False) (reg := reg) (k := 3) (o := o1) (fun p hp => Nat.lt_succ_of_lt (l1 p hp))
  refine z9 ?_; clear z9; try k_unmd
  replace hH := hH.gr g1.toGw id id off_no
  obtain ⟨A, a⟩ := id hH
  have h1 := a.obj.inst
  have h2 := a.obj.dict
  have h4 := a.bank
  refine bc fun z9 => ?_
  refine ex1 h4.inst fun BX h9 => ?_; refine el2 h9 fun hb hb2 => ?_; clear h9
  refine z9 ?_; clear z9; try k_unmd
  clear a
  have hlen := W.len
  have hwb := h4.wb
  replace d1 : o1.data = .cell (some (.ref x)) := d1
  walk_at "S"
  try k_fold
  k_dflt (refine' RCtr.use (bank_op o A.bb S.nodes n _) ?B ?F ?X ?N ?T ?k ?pre ?d ?u ?_)
  (case B | F | X | N | T => k_asm); (case k => first | exact rfl | assumption); (case d | u => walk_at "ROOM")
  (case pre => exact ⟨h4, by omega⟩)
  intro r' h' tk' F' N' hp'; (try k_sweep); (first | (obtain ⟨t', e'⟩ := hp'; subst e') | (have e' := hp'; subst e')); (try dsimp only); (try k_fold)
  walk_at "S"
  try k_fold
  k_dflt (refine' Ctr.use (bank_kids o A.bb S.nodes n _) ?B ?F ?X ?N ?T ?k ?pre ?d ?u ?_)
  (case B | F | X | N | T => k_asm); (case k => first | exact rfl | assumption); (case d | u => walk_at "ROOM")
  (case pre => exact ⟨h4.gr (Gr.sub (R := fun _ => False) (by intro p hp; repeat (first | exact hp | refine List.mem_cons_of_mem _ ?_))).toGw id id off_no, by omega⟩)
  intro r2 news2 news2reg h2' tk2 F2 N2 hp9; refine bc fun z9 => ?_
  refine ex2 hp9 fun a2 us h9 => ?_; refine el4 h9 fun hq1 m2 hI g2 => ?_; clear h9; try clear hp9
  obtain rfl := hq1
  refine z9 ?_; clear z9; try k_unmd
  try k_sweep
  try dsimp only
  try k_fold
  have mD := g2.keep _ (List.mem_cons_self ..) id
  have hkids := hwb.kids n (S.nodes.getD n default) (by simp [show n < S.nodes.length by omega])
  generalize hks : (S.nodes.getD n default).2 = ks at hI hkids
  obtain ⟨hkl, hkid⟩ := hkids
  have hul : us.length = ks.length := by simpa [nats] using hI.length
  refine' comp_tup (vs := us) (c := 0) (reg := news2reg) (fun ys news₁ reg₁ => Gr (fun _ => False) news2reg news2 reg₁ news₁ ∧ IntsAre ys (nats ((ks.take ys.length).map (root S.up)))) ?hh ?F ?N ?J ?hat ?mono ?n 3 ?c ?k ?x ?turn ?done
  (case hh => rfl); (case F => k_asm); (case N => k_asm)
  (case J => exact ⟨Gr.refl, .nil⟩)
  (case hat => exact fun ys news reg h => h.1.keep _ m2 id)
  (case mono => exact fun b ys news₁ reg₁ news' reg' hb h _ l => ⟨h.1.lo hb l, h.2⟩)
  (case n => rw [sizeLine_eq]; omega)
  (case c => decide); (case k => rfl); (case x => rfl)
  case turn =>
    intro ys v C oC mC news₁ reg₁ h tk E' hv hp9 hC rC hns hmv F1 N1
    obtain ⟨g, hy⟩ := hp9
    replace F1 : Fr g' L' h _ := F1
    replace N1 : News g' L' h news₁ := N1
    replace hH := (hH.gr (Gr.sub (R := fun _ => False) (by intro p hp; repeat (first | exact hp | refine List.mem_cons_of_mem _ ?_))).toGw id id off_no).gr (g2.trans g).toGw id id off_no
    have mc := (g2.trans g).keep (Nat.succ L', o1) (.tail _ (.head _)) id
    obtain ⟨AI, aI⟩ := id hH
    have hx1 := aI.obj.inst
    have hx2 := aI.obj.dict
    clear aI
    refine bc fun z9 => ?_
    refine ex2 (ints_at hI hv) fun k t' h9 => ?_; refine el2 h9 fun hq2 hk' => ?_; clear h9
    obtain rfl := hq2
    refine z9 ?_; clear z9; try k_unmd
    have hkn : k < S.up.length := Nat.lt_trans (hkid k (List.mem_of_getElem? hk')) hn
    walk_at "S"
    try k_fold
    k_dflt (refine' RCtr.use (heap_find o x S k _) ?B ?F ?X ?N ?T ?k ?pre ?d ?u ?_)
    (case B | F | X | N | T => k_asm); (case k => first | exact rfl | assumption); (case d | u => walk_at "ROOM")
    (case pre => exact ⟨hH, hkn⟩)
    intro r' h' tk' F' N' hp'; (try k_sweep); (first | (obtain ⟨t', e'⟩ := hp'; subst e') | (have e' := hp'; subst e')); (try dsimp only); (try k_fold)
    walk_at "S"
    refine EltEnd.mk (news₂ := news₁) (reg₂ := reg₁) (fun _ => False) (by k_asm) (by k_asm) (id) (Gr.refl) ⟨g, ?_⟩
    rw [List.length_append, List.length_singleton, take_snoc hk']
    rw [List.map_append]
    exact ints_snoc hy
  case done =>
    intro ys D c news₁ reg₁ h tk hl hp9 hD rD ltD F1 N1
    obtain ⟨g, hy⟩ := hp9
    replace F1 : Fr g' L' h _ := F1
    replace N1 : News g' L' h news₁ := N1
    have hy' : IntsAre ys (nats (ks.map (root S.up))) := by
      rw [hl, List.take_of_length_le (by have := hI.length; simp [nats] at this; omega)] at hy
      exact hy
    walk_at "S"
    refine tupof_N (by k_asm) (by k_asm) hD (by omega) fun D2 h5 F5 N5 lt5 => ?_
    walk_at "S"
    refine tadd_N (by k_asm) (by k_asm) (.tail _ (g.keep _ mD id)) (.head _) (by simp; omega) fun r c' h6 news6 F6 N6 sub6 m6 => ?_
    try k_sweep
    walk_at "S"
    refine hret _ news6 reg₁ _ _ (by k_asm) (by k_asm) ⟨r, _, _, rfl, m6, ?_, g1.trans ((Gr.sub (R := fun _ => False) (by intro p hp; repeat (first | exact hp | refine List.mem_cons_of_mem _ ?_))).trans (g2.trans (g.trans (Gr.cons.trans (Gr.sub sub6)))))⟩
    exact nkey_items (n := cnode S n) (by unfold cnode; rw [hks]; exact hy')
end
section
variable {w : World} {mean : ExcName → Option Value} {mg mb : Str → Option Value}
theorem root_lt {up : List Nat} {a : Nat} (h : a < up.length) : root up a < up.length := Nat.lt_of_le_of_lt (root_le up a) h
theorem mergeUp_len (up : List Nat) (a b : Nat) : (mergeUp up a b).length = up.length := by
  unfold mergeUp
  split <;> simp
noncomputable def Hs.join (S : Hs) (a b : Nat) : Hs := if root S.up a = root S.up b then { S with nE := S.nE + 1 } else
  { S with nE := S.nE + 1, up := mergeUp S.up a b, wait := S.wait ++ S.par (max (root S.up a) (root S.up b)), par := fun i => if i = min (root S.up a) (root S.up b) then S.par (min (root S.up a) (root S.up b)) ++ S.par (max (root S.up a) (root S.up b)) else if i = max (root S.up a) (root S.up b) then [] else S.par i }
theorem Hs.join_ne {S : Hs} {a b k g : Nat} (hab : root S.up a ≠ root S.up b) (hk : k = min (root S.up a) (root S.up b)) (hg : g = max (root S.up a) (root S.up b)) :
    S.join a b = { S with nE := S.nE + 1, up := S.up.set g k, wait := S.wait ++ S.par g, par := fun i => if i = k then S.par k ++ S.par g else if i = g then [] else S.par i } := by
  unfold Hs.join
  rw [if_neg hab, ← hk, ← hg]
  unfold mergeUp
  rw [if_neg hab, ← hk, ← hg]
theorem roots_set {up : List Nat} {k g : Nat} (hkg : k < g) (hg : g < up.length) (ek1 : up.getD k 0 = k) (eg1 : up.getD g 0 = g) : rsum (up.set g k) (fun _ => 1) (up.set g k).length + 1 = rsum up (fun _ => 1) up.length := by
  rw [List.length_set]
  exact rsum_set (f := fun _ => 1) (f' := fun _ => 1) (c := 1) hkg ek1 eg1 rfl (fun _ _ _ => rfl) hg (Nat.le_refl _)
theorem ints_app {us vs : List Value} {a b : List Nat} (h : IntsAre us (nats a)) (k : IntsAre vs (nats b)) : IntsAre (us ++ vs) (nats (a ++ b)) := by
  have := h.append k
  simpa [nats] using this
theorem AbvOk.join {news : Led} {reg reg' : Reg} {news' : Led} {R : Nat → Prop} {o : Nat} {f f' : Int → Option Value} {up : List Nat} {par : Nat → List Nat} {k g : Nat} {D : Addr} {c : Nat} {us : List Value}
    (h : AbvOk news reg o f up par) (G : Gr R reg news reg' news') (hR : ¬ R (o + 13)) (hkg : k < g) (hg : g < up.length) (hf : ∀ i : Nat, f' i = if i = k then some (.ref D) else if i = g then none else f i)
    (hD : (D, lisO us c) ∈ news') (rD : reg' D = o + 13) (hl : ∀ p ∈ news, p.1 < D) (hI : IntsAre us (nats (par k ++ par g))) :
    AbvOk news' reg' o f' (up.set g k) (fun i => if i = k then par k ++ par g else if i = g then [] else par i) := by
  have key : ∀ r, r < (up.set g k).length → (up.set g k).getD r 0 = r → r = k ∨ (r ≠ k ∧ r ≠ g ∧ r < up.length ∧ up.getD r 0 = r) := by
    intro r hr e
    rw [List.length_set] at hr
    by_cases e2 : g = r
    · subst e2; rw [getD_set_eq hg] at e; omega
    · rw [getD_set_ne e2] at e
      by_cases e3 : r = k
      · exact .inl e3
      · exact .inr ⟨e3, Ne.symm e2, hr, e⟩
  refine ⟨fun r hr e => ?_, fun r r' a hr e hr' e' h1 h2 => ?_⟩
  · rcases key r hr e with rfl | ⟨n1, n2, n3, n4⟩
    · exact ⟨D, c, us, by rw [hf, if_pos rfl], hD, rD, by rw [if_pos rfl]; exact hI⟩
    · obtain ⟨a, c, vs, q1, q2, q3, q4⟩ := h.at_ r n3 n4
      exact ⟨a, c, vs, by rw [hf, if_neg n1, if_neg n2]; exact q1, G.at q2 q3 hR, G.regw q2 q3 hR, by rw [if_neg n1, if_neg n2]; exact q4⟩
  · have low : ∀ r, r ≠ k → r ≠ g → r < up.length → up.getD r 0 = r → f' r = some (.ref D) → False := fun r n1 n2 n3 n4 e => by
      obtain ⟨a, c, vs, q1, q2, _⟩ := h.at_ r n3 n4
      rw [hf, if_neg n1, if_neg n2, q1] at e
      have := hl _ q2
      cases e
      exact Nat.lt_irrefl _ this
    rcases key r hr e with rfl | ⟨n1, n2, n3, n4⟩
    · rcases key r' hr' e' with rfl | ⟨m1, m2, m3, m4⟩
      · rfl
      · rw [hf, if_pos rfl] at h1
        cases h1
        exact (low r' m1 m2 m3 m4 h2).elim
    · rcases key r' hr' e' with rfl | ⟨m1, m2, m3, m4⟩
      · rw [hf, if_pos rfl] at h2
        cases h2
        exact (low r n1 n2 n3 n4 h1).elim
      · rw [hf, if_neg n1, if_neg n2] at h1
        rw [hf, if_neg m1, if_neg m2] at h2
        exact h.inj r r' a n3 n4 m3 m4 h1 h2
theorem heap_join (o : Nat) (x : Addr) (S : Hs) (a b : Nat) (ta tb : Tok) (rv : Value) (W : Whs S) : Ctr w mean mg mb 338 3 120 [.ref x, .int a ta, .int b tb, rv]
   (fun news reg => HeapR w news reg o x S ∧ a < S.up.length ∧ b < S.up.length ∧ S.rows.length ≤ 1000000)
   (fun news reg r news' reg' => r = .bool (decide (root S.up a ≠ root S.up b)) ∧ HeapR w news' reg' o x (S.join a b) ∧ Gr (RS o [5, 6, 7, 8, 9, 10, 12, 13, 14]) reg news reg' news') := by
  unfold Ctr
  k_fill
  intro dp un gd cn cs a₀ ccd cl outer A₀ base h₀ L m news reg s Q E B F X N T hk hpre hdp hun hret
  refine bc fun z9 => ?_
  refine el4 hpre fun hq1 ha hb hrows => ?_; try clear hpre
  obtain ⟨A, z⟩ := hq1
  refine z9 ?_; clear z9; try k_unmd
  have hfit := W.fits hrows
  have h1 := z.obj.inst
  have h2 := z.obj.dict
  have h3 := z.obj.one
  have h5 := z.uni
  have hW := h5.wup
  refine bc fun z9 => ?_
  refine ex2 z.edges fun ve ce h9 => ?_; refine el3 h9 fun e1 e2 e3 => ?_; clear h9
  refine z9 ?_; clear z9; try k_unmd
  k_dflt ktr_enter
  refine' (let AA := _; let EE := _; let TT : Nat := _; (?_ : wpAny _ AA _ _ EE ⟨_, _, _, TT, _⟩))
  with_reducible rename Fr _ _ _ _ => kF
  refine' (let mm : Str → Option Value := _; (fun (kF : Fr _ _ _ mm) => ?_) kF); try k_unmd
  walk_at "NM"
  walk_at "S"
  rename_i D1 hh1 FF1 NN1 ll1
  refine append_N (r := o + 9) (reg := reg) (by k_asm) (by k_asm) (.tail _ e1) e2 (by rw [sizeLine_eq, e3]; exact Nat.le_trans hfit.e (by decide)) fun h2' news2 F2 N2 g2 m2 => ?_
  k_sweep
  have g12 := ((Gr.cons (R := fun k => k = o + 9) (reg := reg) (q := (D1, _))).trans g2.toGr)
  have gw9 := g12.toGw
  replace h1 := gw9.inst h1
  have t9 := gw9.regw h2 h3 (by walk_at "NR"); replace h2 := gw9.at h2 h3 (by walk_at "NR"); replace h3 := t9; clear t9
  clear gw9
  replace h5 := h5.gr g12.toGw (by walk_at "NR") (by walk_at "NA")
  refine bc fun z9 => ?_
  refine ex1 h5.inst fun UX h9 => ?_; refine el2 h9 fun hu hu2 => ?_; clear h9
  refine z9 ?_; clear z9; try k_unmd
  walk_at "S"
  try k_fold
  k_dflt (refine' Ctr.use (merge_ctr o A.uu S.up a b _ _) ?B ?F ?X ?N ?T ?k ?pre ?d ?u ?_)
  (case B | F | X | N | T => k_asm); (case k => first | exact rfl | assumption); (case d | u => walk_at "ROOM")
  (case pre => exact ⟨h5, ha, hb⟩)
  intro r3 news3 reg3 h3' tk3 F3 N3 hp9; refine bc fun z9 => ?_
  refine el3 hp9 fun hU g3 hr => ?_; try clear hp9
  refine z9 ?_; clear z9; try k_unmd
  try k_sweep
  try dsimp only
  try k_fold
  have gA : Gr (RS o [5, 6, 7, 8, 9]) reg news reg3 news3 := (g12.rs rfl).trans (g3.up rfl)
  have m3 := g3.both m2 e2 (by walk_at "NR")
  have gw9 := g3.toGw
  replace h1 := gw9.inst h1
  have t9 := gw9.regw h2 h3 (by walk_at "NR"); replace h2 := gw9.at h2 h3 (by walk_at "NR"); replace h3 := t9; clear t9
  clear gw9
  clear h5 hu hu2
  by_cases hab : root S.up a = root S.up b
  · rw [if_pos hab] at hr
    subst hr
    walk_at "S"
    refine hret _ news3 reg3 _ _ (by k_asm) (by k_asm) ⟨by simp [hab], ?_, gA.up rfl⟩
    unfold Hs.join
    rw [if_pos hab]
    have hU' : UniR w news3 reg3 o A.uu S.up := by
      unfold mergeUp at hU
      rw [if_pos hab] at hU
      exact hU
    refine bc fun z9 => ?_
    refine ex1 z.forest fun nf h9 => ?_; refine el2 h9 fun hf1 hf2 => ?_; clear h9
    refine z9 ?_; clear z9; try k_unmd
    exact ⟨A, ⟨h1, h2, h3⟩, z.bank.gr gA.toGw (by walk_at "NR") (by walk_at "NR") (by walk_at "NA"), hU', ⟨_, _, m3.1, m3.2, by simp [e3]⟩, ⟨nf, hf1.gr gA.toGw (by walk_at "NR"), hf2⟩, z.known.gr gA.toGw (by walk_at "NR"), z.above.gr gA.toGw (by walk_at "NR") (by walk_at "NR"), z.wait.gr gA.toGw (by walk_at "NR"), z.rows.gr gA.toGw (by walk_at "NR") (by walk_at "NR")⟩
  · rw [if_neg hab] at hr
    refine bc fun z9 => ?_
    refine ex4 hr fun t3 c3 t31 t32 h9 => ?_; refine el2 h9 fun hq2 mt => ?_; clear h9; try clear hr
    obtain rfl := hq2
    refine ex2 (two_roots hW ha hb hab) fun k g h9 => ?_; refine el6 h9 fun hk hg hkg hgn ek1 eg1 => ?_; clear h9
    refine z9 ?_; clear z9; try k_unmd
    rw [← hk, ← hg] at mt
    have hmu : mergeUp S.up a b = S.up.set g k := by unfold mergeUp; rw [if_neg hab, ← hk, ← hg]
    rw [hmu] at hU
    refine bc fun z9 => ?_
    refine ex1 z.forest fun nf h9 => ?_; refine el2 h9 fun hq3 hnf => ?_; clear h9
    obtain ⟨vf, cf, f1, f2, f3⟩ := hq3
    refine ex2 z.above fun oa f h9 => ?_; refine el4 h9 fun a1 a2 a3 a4 => ?_; clear h9
    refine ex2 z.wait fun vw cw h9 => ?_; refine el3 h9 fun w1 w2 w3 => ?_; clear h9
    refine z9 ?_; clear z9; try k_unmd
    have a4' := a4
    have gw9 := gA.toGw
    have t9 := gw9.regw f1 f2 (by walk_at "NR"); replace f1 := gw9.at f1 f2 (by walk_at "NR"); replace f2 := t9; clear t9
    have t9 := gw9.regw a1 a2 (by walk_at "NR"); replace a1 := gw9.at a1 a2 (by walk_at "NR"); replace a2 := t9; clear t9
    have t9 := gw9.regw w1 w2 (by walk_at "NR"); replace w1 := gw9.at w1 w2 (by walk_at "NR"); replace w2 := t9; clear t9
    replace a4' := a4'.gr gw9 (by walk_at "NR")
    clear gw9
    have hvl : vf.length ≤ 500 := by have := hfit.up; omega
    walk_at "S"
    refine len_N (n := S.nE + 1) (by k_asm) m3.1 (by simp [e3]) (by have := hfit.e; omega) fun tk5 tk6 => ?_
    walk_at "S"
    refine append_N (r := o + 10) (reg := reg3) (by k_asm) (by k_asm) f1 f2 (by rw [sizeLine_eq]; exact Nat.le_trans hvl (by decide)) fun h4' news4 F4 N4 g4 m4 => ?_
    k_sweep
    have gw9 := g4.toGw
    replace h1 := gw9.inst h1
    have t9 := gw9.regw h2 h3 (by walk_at "NR"); replace h2 := gw9.at h2 h3 (by walk_at "NR"); replace h3 := t9; clear t9
    have t9 := gw9.regw a1 a2 (by walk_at "NR"); replace a1 := gw9.at a1 a2 (by walk_at "NR"); replace a2 := t9; clear t9
    have t9 := gw9.regw w1 w2 (by walk_at "NR"); replace w1 := gw9.at w1 w2 (by walk_at "NR"); replace w2 := t9; clear t9
    replace a4' := a4'.gr gw9 (by walk_at "NR")
    clear gw9
    replace f2 := g4.reg' f1 f2
    refine bc fun z9 => ?_
    refine ex3 (a4'.at_ g hgn eg1) fun ag cg ug h9 => ?_; refine el4 h9 fun qg1 qg2 qg3 qg4 => ?_; clear h9
    refine ex3 (a4'.at_ k (Nat.lt_trans hkg hgn) ek1) fun ak ck uk h9 => ?_; refine el4 h9 fun qk1 qk2 qk3 qk4 => ?_; clear h9
    refine z9 ?_; clear z9; try k_unmd
    clear a4'
    walk_at "S"
    refine' dget_N ?N a1 a3 qg1 ?_ ?hs
    (case N => k_asm); (case hs => with_unfolding_all rfl)
    have hwl : vw.length = S.wait.length := by simpa [nats] using w3.length
    have hug : ug.length = (S.par g).length := by simpa [nats] using qg4.length
    have huk : uk.length = (S.par k).length := by simpa [nats] using qk4.length
    have hpg := W.two hkg hgn ek1 eg1
    have hz1 : vw.length + ug.length ≤ sizeLine := by have := hfit.wait; rw [sizeLine_eq]; omega
    have hz2 : uk.length + ug.length ≤ sizeLine := by rw [sizeLine_eq]; omega
    have hz3 : S.up.length ≤ sizeLine := by rw [sizeLine_eq]; exact Nat.le_trans hfit.up (by decide)
    walk_at "S"
    refine extend_N (r := o + 14) (reg := reg3) (by k_asm) (by k_asm) w1 qg2 (fun e => by rw [e, w2] at qg3; exact rg_ne rfl qg3) w2 hz1 fun h5' news5 c5 F5 N5 g5 m5 => ?_
    k_sweep
    have gw9 := g5.toGw
    replace h1 := gw9.inst h1
    have t9 := gw9.regw h2 h3 (by walk_at "NR"); replace h2 := gw9.at h2 h3 (by walk_at "NR"); replace h3 := t9; clear t9
    have t9 := gw9.regw a1 a2 (by walk_at "NR"); replace a1 := gw9.at a1 a2 (by walk_at "NR"); replace a2 := t9; clear t9
    have t9 := gw9.regw qg2 qg3 (by walk_at "NR"); replace qg2 := gw9.at qg2 qg3 (by walk_at "NR"); replace qg3 := t9; clear t9
    have t9 := gw9.regw qk2 qk3 (by walk_at "NR"); replace qk2 := gw9.at qk2 qk3 (by walk_at "NR"); replace qk3 := t9; clear t9
    clear gw9
    replace w2 := g5.reg' w1 w2
    walk_at "S"
    refine' dget_N ?N a1 a3 qk1 ?_ ?hs
    (case N => k_asm); (case hs => with_unfolding_all rfl)
    repeat' (first | ((try k_unmd); k_unfold; (try dsimp only)) | ((try dsimp only); (fail_if_success (with_reducible show wpAny _ _ (getMethod _ _ _) _ _ _)); walk1) | (leave1; try dsimp only))
    refine dmeth_N PySem.F.slot_dict_pop PySem.F.type_dict_pop (by k_asm) a1 a3 ?_
    walk_at "S"
    refine dpop_N (r := o + 12) (reg := reg3) (by k_asm) (by k_asm) a1 a2 a3 hz3 qg1 fun h6 news6 oa6 tk6 F6 N6 g6 m6 d6 => ?_
    k_sweep
    have gw9 := g6.toGw
    replace h1 := gw9.inst h1
    have t9 := gw9.regw h2 h3 (by walk_at "NR"); replace h2 := gw9.at h2 h3 (by walk_at "NR"); replace h3 := t9; clear t9
    have t9 := gw9.regw qg2 qg3 (by walk_at "NR"); replace qg2 := gw9.at qg2 qg3 (by walk_at "NR"); replace qg3 := t9; clear t9
    have t9 := gw9.regw qk2 qk3 (by walk_at "NR"); replace qk2 := gw9.at qk2 qk3 (by walk_at "NR"); replace qk3 := t9; clear t9
    clear gw9
    replace a2 := g6.reg' a1 a2
    walk_at "S"
    refine ladd_N (by k_asm) (by k_asm) qk2 qg2 hz2 fun D7 h7 F7 N7 l7 => ?_
    try k_sweep
    walk_at "S"
    refine bc fun z9 => ?_
    obtain ⟨reg7, g7, r7⟩ := Gr.fresh (R := fun _ => False) (reg := reg3) (k := o + 13) (o := lisO (uk ++ ug) 0) l7
    refine z9 ?_; clear z9; try k_unmd
    have gw9 := g7.toGw
    replace h1 := gw9.inst h1
    have t9 := gw9.regw h2 h3 (by walk_at "NR"); replace h2 := gw9.at h2 h3 (by walk_at "NR"); replace h3 := t9; clear t9
    have t9 := gw9.regw m6 a2 (by walk_at "NR"); replace m6 := gw9.at m6 a2 (by walk_at "NR"); replace a2 := t9; clear t9
    clear gw9
    refine dset_N (r := o + 12) (reg := reg7) (by k_asm) (by k_asm) m6 a2 d6 hz3 fun h8 news8 oa8 tk8 F8 N8 g8 m8 d8 => ?_
    k_sweep
    have m7 := g8.both (.head _) r7 (by walk_at "NR")
    have gw9 := g8.toGw
    replace h1 := gw9.inst h1
    have t9 := gw9.regw h2 h3 (by walk_at "NR"); replace h2 := gw9.at h2 h3 (by walk_at "NR"); replace h3 := t9; clear t9
    clear gw9
    replace a2 := g8.reg' m6 a2
    walk_at "S"
    have g48 : Gr (RS o [10, 12, 14]) reg3 news3 reg7 news8 := (g4.toGr.rs rfl).trans ((g5.toGr.rs rfl).trans ((g6.toGr.rs rfl).trans (g7.no.trans (g8.toGr.rs rfl))))
    have gB : Gr (RS o [5, 6, 7, 8, 9, 10, 12, 14]) reg news reg7 news8 := (gA.up rfl).trans (g48.up rfl)
    refine hret _ news8 reg7 _ _ (by k_asm) (by k_asm) ⟨by simp [hab], ?_, gB.up rfl⟩
    rw [Hs.join_ne hab hk hg]
    have hne : ¬ (k : Int) = (g : Int) := by omega
    have hroots := roots_set hkg hgn ek1 eg1
    have hl7 : ∀ p ∈ news, p.1 < D7 := fun p hp => by
      refine bc fun z9 => ?_
      obtain ⟨q, hq⟩ := gA.here p hp
      obtain ⟨q2, hq2⟩ := ((g4.toGr.rs (l := [10, 12, 14]) rfl).trans ((g5.toGr.rs rfl).trans (g6.toGr.rs rfl))).here _ hq
      refine z9 ?_; clear z9; try k_unmd
      exact l7 (p.1, q2) hq2
    have m58 := (g6.toGr.rs (l := [12]) rfl).trans (g7.no.trans (g8.toGr.rs rfl))
    have m48 := (g5.toGr.rs (l := [12, 14]) rfl).trans (m58.up rfl)
    have m4' := m48.both m4 f2 (by walk_at "NR")
    have m5' := m58.both m5 w2 (by walk_at "NR")
    have m3' := g48.both m3.1 m3.2 (by walk_at "NR")
    exact ⟨A, ⟨h1, h2, h3⟩, z.bank.gr gB.toGw (by walk_at "NR") (by walk_at "NR") (by walk_at "NA"), hU.gr g48.toGw (by walk_at "NR") (by walk_at "NA"), ⟨_, _, m3'.1, m3'.2, by simp [e3]⟩, ⟨nf + 1, ⟨_, _, m4'.1, m4'.2, by simp [f3]⟩, by unfold roots at hnf ⊢; dsimp only; rw [List.length_set] at hroots ⊢; omega⟩, z.known.gr gB.toGw (by walk_at "NR"),
      ⟨oa8, _, m8, a2, by
        rw [if_neg hne, qk1, Option.isSome_some, if_pos rfl, ← List.length_set (i := g) (a := k)] at d8
        exact d8, a4.join gB (by walk_at "NR") hkg hgn (fun i => by simp only [Int.natCast_inj]) m7.1 m7.2 hl7 (ints_app qk4 qg4)⟩, ⟨_, _, m5'.1, m5'.2, ints_app w3 qg4⟩, z.rows.gr gB.toGw (by walk_at "NR") (by walk_at "NR")⟩
end
section
variable {w : World} {mean : ExcName → Option Value} {mg mb : Str → Option Value}
section
variable {A : Around} {E : Value → Shared → Prop} {s : Shared} {h₀ : Heap} {L : Addr} {news : Led}
theorem tmeth_N {name : Str} {id : String} {pl : Sem Bool} {d : Addr} {o : Obj} {f : List Atom → Option Nat} {q : Nat} {Q : Value × List Value → Shared → Prop} (slot : Slot "dict" name id) (ty : typeOf (.builtin id) = pure (.type "method_descriptor")) (N : News h₀ L s.heap news) (hm : (d, o) ∈ news) (hd : TDict w news o f q) (h : Q (.builtin id, [.ref d]) s) :
    wpAny (model PG w) A (getMethod (.ref d) name pl) Q E s := by
  obtain ⟨xs, es, ep, rfl, _⟩ := hd
  exact getMethod_builtin ⟨_, N.get hm, rfl⟩ PySem.F.plainAttrs_dict slot ty (fun a e => by cases e; exact ⟨_, N.get hm, rfl⟩) h
end
noncomputable def Hs.look (S : Hs) (n : Nat) : Hs := match S.known (nkey (cnode S n)) with
  | some v => if root S.up v = root S.up n then S else S.join v n
  | none => { S with known := fun k => if k = nkey (cnode S n) then some n else S.known k, kc := S.kc + 1 }
theorem heap_look (o : Nat) (x : Addr) (S : Hs) (n : Nat) (t : Tok) (W : Whs S) : Ctr w mean mg mb 310 4 160 [.ref x, .int n t]
   (fun news reg => HeapR w news reg o x S ∧ n < S.up.length ∧ S.rows.length ≤ 1000000)
   (fun news reg r news' reg' => r = .none ∧ HeapR w news' reg' o x (S.look n) ∧ Gr (RS o [5, 6, 7, 8, 9, 10, 11, 12, 13, 14]) reg news reg' news') := by
  unfold Ctr
  k_fill
  intro dp un gd cn cs a₀ ccd cl outer A₀ base h₀ L m news reg s Q E B F X N T hk hpre hdp hun hret
  refine bc fun z9 => ?_
  refine el3 hpre fun hq1 hn hrows => ?_; try clear hpre
  obtain ⟨A, z⟩ := hq1
  refine z9 ?_; clear z9; try k_unmd
  have hfit := W.fits hrows
  have h1 := z.obj.inst
  have h2 := z.obj.dict
  have h3 := z.obj.one
  refine bc fun z9 => ?_
  refine ex1 z.known fun ok h9 => ?_; refine el4 h9 fun k1 k2 k3 k4 => ?_; clear h9
  refine z9 ?_; clear z9; try k_unmd
  k_dflt ktr_enter
  refine' (let AA := _; let EE := _; let TT : Nat := _; (?_ : wpAny _ AA _ _ EE ⟨_, _, _, TT, _⟩))
  with_reducible rename Fr _ _ _ _ => kF
  refine' (let mm : Str → Option Value := _; (fun (kF : Fr _ _ _ mm) => ?_) kF); try k_unmd
  walk_at "NM"
  repeat' (first | ((try k_unmd); k_unfold; (try dsimp only)) | ((try dsimp only); (fail_if_success (with_reducible show wpAny _ _ (getMethod _ _ _) _ _ _)); walk1) | (leave1; try dsimp only))
  refine tmeth_N PySem.F.slot_dict_setdefault PySem.F.type_dict_setdefault (by k_asm) k1 k3 ?_
  walk_at "S"
  try k_fold
  k_dflt (refine' Ctr.use (heap_node o x S n _ W) ?B ?F ?X ?N ?T ?k ?pre ?d ?u ?_)
  (case B | F | X | N | T => k_asm); (case k => first | exact rfl | assumption); (case d | u => walk_at "ROOM")
  (case pre => exact ⟨⟨A, z⟩, hn⟩)
  intro r2 news2 reg2 h2' tk2 F2 N2 hp9; refine bc fun z9 => ?_
  refine ex3 hp9 fun ka kus kc h9 => ?_; refine el4 h9 fun hq2 mk hk g2 => ?_; clear h9; try clear hp9
  obtain rfl := hq2
  refine z9 ?_; clear z9; try k_unmd
  try k_sweep
  try dsimp only
  try k_fold
  have gw9 := g2.toGw
  replace h1 := gw9.inst h1
  have t9 := gw9.regw h2 h3 (by walk_at "NR"); replace h2 := gw9.at h2 h3 (by walk_at "NR"); replace h3 := t9; clear t9
  clear gw9
  replace k3 := k3.gr g2.toGw
  replace k1 := g2.both k1 k2 id; replace k2 := k1.2; replace k1 := k1.1
  walk_at "S"
  refine tdef_N (r := o + 11) (reg := reg2) (by k_asm) (by k_asm) k1 k2 k3 mk hk k4 (by rw [sizeLine_eq]; exact Nat.le_trans hfit.kc (by decide)) (by walk_at "ROOM") ?there ?new
  case there =>
    intro v tv tk' hv
    have hH := (z.gr g2.toGw id id off_no)
    have hvn := W.known _ _ hv
    walk_at "S"
    try k_fold
    k_dflt (refine' RCtr.use (heap_find o x S v _) ?B ?F ?X ?N ?T ?k ?pre ?d ?u ?_)
    (case B | F | X | N | T => k_asm); (case k => first | exact rfl | assumption); (case d | u => walk_at "ROOM")
    (case pre => exact ⟨⟨A, hH⟩, hvn⟩)
    intro r' h' tk' F' N' hp'; (try k_sweep); (first | (obtain ⟨t', e'⟩ := hp'; subst e') | (have e' := hp'; subst e')); (try dsimp only); (try k_fold)
    walk_at "S"
    try k_fold
    k_dflt (refine' RCtr.use (heap_find o x S n _) ?B ?F ?X ?N ?T ?k ?pre ?d ?u ?_)
    (case B | F | X | N | T => k_asm); (case k => first | exact rfl | assumption); (case d | u => walk_at "ROOM")
    (case pre => exact ⟨⟨A, hH⟩, hn⟩)
    intro r' h' tk' F' N' hp'; (try k_sweep); (first | (obtain ⟨t', e'⟩ := hp'; subst e') | (have e' := hp'; subst e')); (try dsimp only); (try k_fold)
    walk_at "S"
    · have hab : root S.up v ≠ root S.up n := by omega
      try k_fold
      k_dflt (refine' Ctr.use (heap_join o x S v n _ _ _ W) ?B ?F ?X ?N ?T ?k ?pre ?d ?u ?_)
      (case B | F | X | N | T => k_asm); (case k => first | exact rfl | assumption); (case d | u => walk_at "ROOM")
      (case pre => exact ⟨HeapR.gr ⟨A, hH⟩ (Gr.sub (R := fun _ => False) (by intro p hp; repeat (first | exact hp | refine List.mem_cons_of_mem _ ?_))).toGw id id off_no, hvn, hn, hrows⟩)
      intro r3 news3 reg3 h3' tk3 F3 N3 hp9; refine bc fun z9 => ?_
      refine el3 hp9 fun hq3 hJ g3 => ?_; try clear hp9
      obtain rfl := hq3
      refine z9 ?_; clear z9; try k_unmd
      try k_sweep
      try dsimp only
      try k_fold
      walk_at "S"
      refine hret _ news3 reg3 _ _ (by k_asm) (by k_asm) ⟨rfl, ?_, (g2.no.trans ((Gr.sub (R := fun _ => False) (by intro p hp; repeat (first | exact hp | refine List.mem_cons_of_mem _ ?_))).no.trans g3)).up rfl⟩
      unfold Hs.look
      rw [hv]
      dsimp only
      rw [if_neg hab]
      exact hJ
    · have hab : root S.up v = root S.up n := by omega
      refine hret _ news2 reg2 _ _ (by k_asm) (by k_asm) ⟨rfl, ?_, g2.no⟩
      unfold Hs.look
      rw [hv]
      dsimp only
      rw [if_pos hab]
      exact ⟨A, hH⟩
  case new =>
    intro hnone h3' news3 ok3 tk3 F3 N3 g3 m3 d3
    have gw9 := g3.toGw
    replace h1 := gw9.inst h1
    have t9 := gw9.regw h2 h3 (by walk_at "NR"); replace h2 := gw9.at h2 h3 (by walk_at "NR"); replace h3 := t9; clear t9
    clear gw9
    replace k2 := g3.reg' k1 k2
    have gA := (g2.no (R := RS o [11])).trans (g3.toGr.rs rfl)
    refine bc fun z9 => ?_
    refine ex1 z.forest fun nf h9 => ?_; refine el2 h9 fun hf1 hf2 => ?_; clear h9
    refine z9 ?_; clear z9; try k_unmd
    have hH : HeapR w news3 reg2 o x (S.look n) := by
      unfold Hs.look
      rw [hnone]
      exact ⟨A, ⟨h1, h2, h3⟩, z.bank.gr gA.toGw (by walk_at "NR") (by walk_at "NR") (by walk_at "NA"), z.uni.gr gA.toGw (by walk_at "NR") (by walk_at "NA"), z.edges.gr gA.toGw (by walk_at "NR"), ⟨nf, hf1.gr gA.toGw (by walk_at "NR"), hf2⟩, ⟨_, m3, k2, d3, k4⟩, z.above.gr gA.toGw (by walk_at "NR") (by walk_at "NR"), z.wait.gr gA.toGw (by walk_at "NR"), z.rows.gr gA.toGw (by walk_at "NR") (by walk_at "NR")⟩
    have hup : (S.look n).up = S.up := by
      unfold Hs.look
      rw [hnone]
    walk_at "S"
    try k_fold
    k_dflt (refine' RCtr.use (heap_find o x (S.look n) n _) ?B ?F ?X ?N ?T ?k ?pre ?d ?u ?_)
    (case B | F | X | N | T => k_asm); (case k => first | exact rfl | assumption); (case d | u => walk_at "ROOM")
    (case pre => exact ⟨hH, hup ▸ hn⟩)
    intro r' h' tk' F' N' hp'; (try k_sweep); (first | (obtain ⟨t', e'⟩ := hp'; subst e') | (have e' := hp'; subst e')); (try dsimp only); (try k_fold)
    walk_at "S"
    try k_fold
    k_dflt (refine' RCtr.use (heap_find o x (S.look n) n _) ?B ?F ?X ?N ?T ?k ?pre ?d ?u ?_)
    (case B | F | X | N | T => k_asm); (case k => first | exact rfl | assumption); (case d | u => walk_at "ROOM")
    (case pre => exact ⟨hH, hup ▸ hn⟩)
    intro r' h' tk' F' N' hp'; (try k_sweep); (first | (obtain ⟨t', e'⟩ := hp'; subst e') | (have e' := hp'; subst e')); (try dsimp only); (try k_fold)
    walk_at "S"
    exact hret _ news3 reg2 _ _ (by k_asm) (by k_asm) ⟨rfl, hH, gA.up rfl⟩
end
section
theorem Wup.set {up : List Nat} {k g : Nat} (U : Wup up) (hkg : k < g) (hg : g < up.length) : Wup (up.set g k) := ⟨fun i => by
  by_cases e : g = i
  · rw [← e, getD_set_eq hg]; exact Nat.le_of_lt hkg
  · rw [getD_set_ne e]; exact U.le i, by rw [List.length_set]; exact U.len⟩
noncomputable def Hs.todo (S : Hs) : Nat := 1000 * roots S + S.wait.length
theorem Whs.join {S : Hs} {a b : Nat} (W : Whs S) (ha : a < S.up.length) (hb : b < S.up.length) (he : root S.up a = root S.up b → S.nE + 1 + roots S ≤ S.rows.length + S.up.length) :
    Whs (S.join a b) ∧ (S.join a b).rows = S.rows ∧ (S.join a b).nodes = S.nodes ∧ (S.join a b).up.length = S.up.length ∧ (S.join a b).todo ≤ S.todo := by
  by_cases hab : root S.up a = root S.up b
  · unfold Hs.join
    rw [if_pos hab]
    exact ⟨⟨W.u, W.len, W.n, W.par, W.wait, W.known, W.psum, W.wsum, he hab⟩, rfl, rfl, rfl, Nat.le_refl _⟩
  · obtain ⟨k, g, hk, hg, hkg, hgn, ek, eg⟩ := two_roots W.u ha hb hab
    rw [Hs.join_ne hab hk hg]
    have p1 := rsum_set (f := fun i => (S.par i).length) (f' := fun i => (if i = k then S.par k ++ S.par g else if i = g then [] else S.par i).length) (c := 0) hkg ek eg (by simp) (fun i h1 h2 => by simp [h1, h2]) hgn (Nat.le_refl _)
    have p2 := roots_set hkg hgn ek eg
    rw [List.length_set] at p2
    have p3 := rsum_le (f := fun i => (S.par i).length) hgn eg
    have hw := W.wsum
    have hp := W.psum
    have hn := W.n
    have hes := W.esum
    have h2 := W.two hkg hgn ek eg
    refine ⟨⟨W.u.set hkg hgn, ?_, ?_, ?_, ?_, ?_, ?_, ?_, ?_⟩, rfl, rfl, by simp, ?_⟩
    · dsimp only; rw [List.length_set]; exact W.len
    · dsimp only; rw [List.length_set]; exact W.n
    · intro i j hj
      dsimp only at hj ⊢
      rw [List.length_set]
      by_cases e : i = k
      · rw [if_pos e] at hj
        rcases List.mem_append.mp hj with h | h
        · exact W.par _ _ h
        · exact W.par _ _ h
      · rw [if_neg e] at hj
        by_cases e2 : i = g
        · rw [if_pos e2] at hj; cases hj
        · rw [if_neg e2] at hj; exact W.par _ _ hj
    · intro j hj
      dsimp only at hj ⊢
      rw [List.length_set]
      rcases List.mem_append.mp hj with h | h
      · exact W.wait _ h
      · exact W.par _ _ h
    · intro q v hv
      dsimp only at hv ⊢
      rw [List.length_set]
      exact W.known _ _ hv
    · dsimp only; rw [List.length_set]; omega
    · unfold roots at hw ⊢; dsimp only; rw [List.length_set, List.length_append]; omega
    · unfold roots at hes ⊢; dsimp only; rw [List.length_set]; omega
    · unfold Hs.todo roots; dsimp only; rw [List.length_set, List.length_append]; omega
theorem Whs.look {S : Hs} {n : Nat} (W : Whs S) (hn : n < S.up.length) (hs : S.kc + S.wait.length + 1000 * roots S < 1001 * S.up.length) :
    Whs (S.look n) ∧ (S.look n).rows = S.rows ∧ (S.look n).nodes = S.nodes ∧ (S.look n).up.length = S.up.length ∧ (S.look n).todo ≤ S.todo := by
  unfold Hs.look
  split
  · rename_i v hv
    by_cases hab : root S.up v = root S.up n
    · rw [if_pos hab]; exact ⟨W, rfl, rfl, rfl, Nat.le_refl _⟩
    · rw [if_neg hab]
      exact W.join (W.known _ _ hv) hn fun e => absurd e hab
  · refine ⟨⟨W.u, W.len, W.n, W.par, W.wait, fun k v hv => ?_, W.psum, ?_, W.esum⟩, rfl, rfl, rfl, Nat.le_refl _⟩
    · dsimp only at hv
      split at hv
      · cases hv; exact hn
      · exact W.known _ _ hv
    · unfold roots at hs ⊢; dsimp only; omega
theorem Whs.pop {S : Hs} {l : List Nat} {k : Nat} (W : Whs S) (h : S.wait = l ++ [k]) : Whs { S with wait := l } ∧ k < S.up.length ∧ S.kc + l.length + 1000 * roots S < 1001 * S.up.length := by
  have hw := W.wsum
  rw [h, List.length_append, List.length_singleton] at hw
  refine ⟨⟨W.u, W.len, W.n, W.par, fun j hj => W.wait j (by rw [h]; exact List.mem_append_left _ hj), W.known, W.psum, ?_, W.esum⟩, W.wait k (by rw [h]; simp), by omega⟩
  unfold roots at hw ⊢; dsimp only; omega
noncomputable def Hs.settleN : Nat → Hs → Hs
  | 0, S => S
  | n + 1, S => match S.wait.getLast? with
    | none => S
    | some k => Hs.settleN n (({ S with wait := S.wait.dropLast } : Hs).look k)
theorem settleN_nil {S : Hs} (h : S.wait = []) : ∀ n, Hs.settleN n S = S
  | 0 => rfl
  | n + 1 => by rw [Hs.settleN, h]; rfl
theorem settleN_snoc {S : Hs} {l : List Nat} {k : Nat} (h : S.wait = l ++ [k]) (n : Nat) : Hs.settleN (n + 1) S = Hs.settleN n (({ S with wait := l } : Hs).look k) := by
  rw [Hs.settleN, h]
  simp
noncomputable def Hs.settle (S : Hs) : Hs := Hs.settleN S.todo S
theorem Whs.settleN : ∀ {n : Nat} {S : Hs}, Whs S → S.todo ≤ n → Whs (Hs.settleN n S) ∧ (Hs.settleN n S).rows = S.rows ∧ (Hs.settleN n S).nodes = S.nodes ∧ (Hs.settleN n S).up.length = S.up.length ∧ (Hs.settleN n S).wait = []
  | 0, S, W, h => by
    refine ⟨W, rfl, rfl, rfl, ?_⟩
    unfold Hs.todo at h
    exact List.eq_nil_of_length_eq_zero (by show S.wait.length = 0; omega)
  | n + 1, S, W, h => by
    rcases List.eq_nil_or_concat S.wait with e | ⟨l, k, e⟩
    · rw [settleN_nil e]; exact ⟨W, rfl, rfl, rfl, e⟩
    · rw [List.concat_eq_append] at e
      rw [settleN_snoc e]
      obtain ⟨W1, hk, hs⟩ := W.pop e
      obtain ⟨W2, h1, h2, h3, h4⟩ := W1.look hk hs
      have ht : (({ S with wait := l } : Hs).look k).todo ≤ n := by
        refine Nat.le_trans h4 ?_
        unfold Hs.todo roots at h ⊢
        rw [e, List.length_append, List.length_singleton] at h
        dsimp only
        omega
      obtain ⟨W3, r1, r2, r3, r4⟩ := W2.settleN ht
      exact ⟨W3, r1.trans h1, r2.trans h2, r3.trans h3, r4⟩
end
section
variable {w : World} {mean : ExcName → Option Value} {mg mb : Str → Option Value}
theorem ints_pop {vs : List Value} {l : List Nat} {k : Nat} (h : IntsAre vs (nats (l ++ [k]))) : ∃ us t, vs = us ++ [.int (k : Int) t] ∧ IntsAre us (nats l) := by
  induction l generalizing vs with
  | nil =>
    obtain ⟨t, r, rfl, hr⟩ := IntsAre.cons_inv (by simpa [nats] using h)
    obtain rfl := hr.nil_inv
    exact ⟨[], t, rfl, .nil⟩
  | cons a l ih =>
    obtain ⟨t, r, rfl, hr⟩ := IntsAre.cons_inv (show IntsAre vs ((a : Int) :: nats (l ++ [k])) from h)
    obtain ⟨us, t', rfl, hu⟩ := ih hr
    exact ⟨.int (a : Int) t :: us, t', rfl, .cons _ _ hu⟩
theorem heap_settle (o : Nat) (x : Addr) (S : Hs) (W : Whs S) : Ctr w mean mg mb 345 5 200 [.ref x]
   (fun news reg => HeapR w news reg o x S ∧ S.rows.length ≤ 1000000)
   (fun news reg r news' reg' => r = .none ∧ HeapR w news' reg' o x S.settle ∧ Gr (RS o [5, 6, 7, 8, 9, 10, 11, 12, 13, 14]) reg news reg' news') := by
  unfold Ctr
  k_fill
  intro dp un gd cn cs a₀ ccd cl outer A₀ base h₀ L m news reg s Q E B F X N T hk hpre hdp hun hret
  obtain ⟨hH, hrows⟩ := hpre
  k_dflt ktr_enter
  refine' (let AA := _; let EE := _; let TT : Nat := _; (?_ : wpAny _ AA _ _ EE ⟨_, _, _, TT, _⟩))
  with_reducible rename Fr _ _ _ _ => kF
  refine' (let mm : Str → Option Value := _; (fun (kF : Fr _ _ _ mm) => ?_) kF); try k_unmd
  walk_at "NM"
  walk_at "S"
  refine' While_inv2 (n₀ := S.todo) (news := news) (fun (n : Nat) (m₁ : Str → Option Value) (news₁ : Led) => ∃ S₁ f reg₁, m₁ = (fun (z : Str) => List.lookup z [(("self" : Str), Value.ref x)]) ∧ HeapR w news₁ reg₁ o x S₁ ∧ Gr (RS o [5, 6, 7, 8, 9, 10, 11, 12, 13, 14]) reg news reg₁ news₁ ∧ Whs S₁ ∧ S₁.rows = S.rows ∧ n = S₁.todo ∧ S₁.todo ≤ f ∧ Hs.settleN f S₁ = S.settle) ?k1 ?k2 ?k3 ?_ ?k5
  (case k1 => k_asm); (case k2 => k_asm)
  (case k3 => exact ⟨S, S.todo, reg, rfl, hH, Gr.refl, W, rfl, rfl, Nat.le_refl _, rfl⟩)
  (case k5 => passes_own)
  rename Fr _ _ _ _ => F'
  rename News _ _ _ _ => N'
  clear F' N'
  rintro n m₁ news₁ h₁ tk₁ F₁ N₁ ⟨S₁, f, reg₁, rfl, hH₁, g₁, W₁, hr₁, rfl, hf, he⟩
  have hfit := W₁.fits (hr₁ ▸ hrows)
  obtain ⟨A, z⟩ := id hH₁
  have h1 := z.obj.inst
  have h2 := z.obj.dict
  have h3 := z.obj.one
  refine bc fun z9 => ?_
  refine ex2 z.wait fun vw cw h9 => ?_; refine el3 h9 fun w1 w2 w3 => ?_; clear h9
  refine z9 ?_; clear z9; try k_unmd
  rcases List.eq_nil_or_concat S₁.wait with e | ⟨l, k, e⟩
  · rw [e] at w3
    obtain rfl := w3.nil_inv
    rw [settleN_nil e] at he
    subst he
    walk_at "S"
    refine len_N (n := 0) (by k_asm) w1 rfl (by decide) fun tk2 tk3 => ?_
    walk_at "S"
    exact hret _ news₁ reg₁ _ _ (by k_asm) (by k_asm) ⟨rfl, hH₁, g₁⟩
  · rw [List.concat_eq_append] at e
    rw [e] at w3
    have hlw : l.length + 1 ≤ 600000 := by have := hfit.wait; rw [e, List.length_append, List.length_singleton] at this; exact this
    refine bc fun z9 => ?_
    refine ex2 (ints_pop w3) fun us t h9 => ?_; refine el2 h9 fun hq1 w4 => ?_; clear h9
    obtain rfl := hq1
    refine z9 ?_; clear z9; try k_unmd
    have hlu : us.length = l.length := by simpa [nats] using w4.length
    walk_at "S"
    refine len_N (n := us.length + 1) (by k_asm) w1 (by simp) (by omega) fun tk2 tk3 => ?_
    walk_at "S"
    refine pop_N (r := o + 14) (reg := reg₁) (by k_asm) (by k_asm) w1 w2 (by rw [sizeLine_eq]; omega) fun h3' news3 F3 N3 g3 m3 => ?_
    k_sweep
    have gw9 := g3.toGw
    replace h1 := gw9.inst h1
    have t9 := gw9.regw h2 h3 (by walk_at "NR"); replace h2 := gw9.at h2 h3 (by walk_at "NR"); replace h3 := t9; clear t9
    clear gw9
    replace w2 := g3.reg' w1 w2
    have gA : Gr (RS o [14]) reg₁ news₁ reg₁ news3 := g3.toGr.rs rfl
    refine bc fun z9 => ?_
    refine el3 (W₁.pop e) fun W2 hk hs => ?_
    refine ex1 z.forest fun nf h9 => ?_; refine el2 h9 fun hf1 hf2 => ?_; clear h9
    refine z9 ?_; clear z9; try k_unmd
    have hH3 : HeapR w news3 reg₁ o x { S₁ with wait := l } := ⟨A, ⟨h1, h2, h3⟩, z.bank.gr gA.toGw (by walk_at "NR") (by walk_at "NR") (by walk_at "NA"), z.uni.gr gA.toGw (by walk_at "NR") (by walk_at "NA"), z.edges.gr gA.toGw (by walk_at "NR"), ⟨nf, hf1.gr gA.toGw (by walk_at "NR"), hf2⟩, z.known.gr gA.toGw (by walk_at "NR"), z.above.gr gA.toGw (by walk_at "NR") (by walk_at "NR"), ⟨_, _, m3, w2, w4⟩, z.rows.gr gA.toGw (by walk_at "NR") (by walk_at "NR")⟩
    walk_at "S"
    try k_fold
    k_dflt (refine' Ctr.use (heap_look o x { S₁ with wait := l } k _ W2) ?B ?F ?X ?N ?T ?k ?pre ?d ?u ?_)
    (case B | F | X | N | T => k_asm); (case k => first | exact rfl | assumption); (case d | u => walk_at "ROOM")
    (case pre => exact ⟨hH3, hk, hr₁ ▸ hrows⟩)
    intro r4 news4 reg4 h4' tk4 F4 N4 hp9; refine bc fun z9 => ?_
    refine el3 hp9 fun hq2 hH4 g4 => ?_; try clear hp9
    obtain rfl := hq2
    refine z9 ?_; clear z9; try k_unmd
    try k_sweep
    try dsimp only
    try k_fold
    walk_at "S"
    refine bc fun z9 => ?_
    refine el5 (W2.look hk hs) fun W3 q1 q2 q3 q4 => ?_
    refine z9 ?_; clear z9; try k_unmd
    have hlt : (({ S₁ with wait := l } : Hs).look k).todo < S₁.todo := by
      refine Nat.lt_of_le_of_lt q4 ?_
      unfold Hs.todo roots
      rw [e, List.length_append, List.length_singleton]
      dsimp only
      omega
    refine bc fun z9 => ?_
    obtain ⟨f', rfl⟩ : ∃ f', f = f' + 1 := ⟨f - 1, by omega⟩
    refine z9 ?_; clear z9; try k_unmd
    rw [settleN_snoc e] at he
    exact ⟨_, _, _, _, _, rfl, (by k_asm), (by k_asm), hlt, _, f', reg4, rfl, hH4, g₁.trans ((gA.up rfl).trans g4), W3, q1.trans hr₁, rfl, by omega, he⟩
end
section
variable {w : World} {mean : ExcName → Option Value} {mg mb : Str → Option Value}
section
variable {A : Around} {E : Value → Shared → Prop} {s : Shared} {h₀ h : Heap} {L : Addr} {m : Str → Option Value} {news : Led} {reg : Reg} {env : Env}
theorem lis_reads {a : Addr} {vs : List Value} {c : Nat} {ds : List PyData} (N : News h₀ L h news) (hm : (a, lisO vs c) ∈ news) (hd : DTs news reg vs ds) : ∃ as, Reads h (.ref a) (.list ds) as := by
  obtain ⟨as, q⟩ := DTs.reads N hd
  exact ⟨_, reads_list_at (N.get hm) rfl rfl (by simpa using q)⟩
theorem eqR {a b : Value} {da db : PyData} {Q : Value → Shared → Prop} (ra : ∃ as, Reads s.heap a da as) (rb : ∃ as, Reads s.heap b db as) (ha : SeqAt.shaped da = true) (hb : SeqAt.shaped db = true) (hu : A.units + 64 < cLine) (h : Q (.bool (PyData.eqv da db)) s) :
    wpAny (model PG w) A (compareOp .Eq a b) Q E s := by
  obtain ⟨as, ra⟩ := ra
  obtain ⟨bs, rb⟩ := rb
  exact SeqAt.compareEq_shaped ra rb ha hb hu h
theorem neR {a b : Value} {da db : PyData} {Q : Value → Shared → Prop} (ra : ∃ as, Reads s.heap a da as) (rb : ∃ as, Reads s.heap b db as) (ha : SeqAt.shaped da = true) (hb : SeqAt.shaped db = true) (hu : A.units + 64 < cLine) (h : Q (.bool (!PyData.eqv da db)) s) :
    wpAny (model PG w) A (compareOp .NotEq a b) Q E s := by
  obtain ⟨as, ra⟩ := ra
  obtain ⟨bs, rb⟩ := rb
  exact SeqAt.compareNe_shaped ra rb ha hb hu h
theorem str_shaped {l : List Nat} (h : ∀ c ∈ l, c < 128) : SeqAt.shaped (.list (l.map fun c => .str ⟨#[c]⟩)) = true := by
  have : PyData.canLayAll0 (l.map fun c => PyData.str ⟨#[c]⟩) = true ∧ PyData.depthAll (l.map fun c => PyData.str ⟨#[c]⟩) = 0 := by
    induction l with
    | nil => exact ⟨rfl, rfl⟩
    | cons c l ih =>
      obtain ⟨i1, i2⟩ := ih fun c hc => h c (.tail _ hc)
      have hc := h c (.head _)
      refine ⟨?_, by simp [PyData.depthAll, PyData.depth, i2]⟩
      simp only [List.map_cons, PyData.canLayAll0, PyData.canLay0, i1, Bool.and_true]
      simp [PyData.strOk]
      omega
  unfold SeqAt.shaped
  simp [PyData.canLay0, PyData.depth, this.1, this.2]
theorem signs_filter {p : Nat → Bool} {news : Led} {reg : Reg} : ∀ {l : List Nat} {vs : List Value}, vs.length = l.length → (∀ (j : Nat) (v : Value), vs[j]? = some v → ∃ (c : Nat) (u : Tok), l[j]? = some c ∧ v = .str ⟨#[c]⟩ u) →
    DTs news reg (vs.filter fun v => match v with | .str y _ => p (y.cps.getD 0 0) | _ => false) ((l.filter p).map fun c => .str ⟨#[c]⟩)
  | [], [], _, _ => .nil
  | c :: l, v :: vs, hl, h => by
    obtain ⟨c', u, hc, rfl⟩ := h 0 v rfl
    simp only [List.getElem?_cons_zero, Option.some.injEq] at hc
    subst hc
    have ih := signs_filter (p := p) (news := news) (reg := reg) (l := l) (vs := vs) (by simpa using hl) fun j v hv => by simpa using h (j + 1) v (by simpa using hv)
    by_cases hp : p c = true
    · rw [List.filter_cons_of_pos (by simpa using hp), List.filter_cons_of_pos hp]
      exact .cons (.str _ _) ih
    · rw [List.filter_cons_of_neg (by simpa using hp), List.filter_cons_of_neg hp]
      exact ih
theorem paired_eq : ∀ {vs ys : List Value}, Paired (fun v y : Value => y = v) vs ys → ys = vs
  | _, _, .nil => rfl
  | _, _, .cons h r => by rw [h, paired_eq r]
theorem cname_locP {scope : Scope} {C : Addr} {x : Str} {pos : Pos} {v : Value} {mC : Str → Option Value} {Q : Value → Shared → Prop} (hns : s.heap.Ns C mC) (hv : mC x = some v) (h : Q v s)
    (hk : scope.kind = .function) (hl : (compEnv scope C env).kindOf x = some .local) (hd : (x == ("__debug__" : Str)) = false) : wpAny (model PG w) A (eval (.Name x pos) (compEnv scope C env)) Q E s := wpAny_Name (wpAny_loadName_local hk hl hns hv h) hd
theorem comp_str {x xn : Str} {t : Tok} {elt iter c : Expr} {px : Pos} {scope : Scope} {pos : Pos} {Q : Value → Shared → Prop} (p : Nat → Bool) (hh : A.handled = none) (F : Fr h₀ L s.heap m) (N : News h₀ L s.heap news) (hsz : x.cps.size ≤ sizeLine)
    (hfree : ∀ y ∈ scope.names, y.2 ≠ .free) (hcell : ∀ y ∈ scope.names, y.2 ≠ .cell) (hkind : scope.kind = .function)
    (hnames : ∀ y ∈ scope.names, y.2 = .local → scope.names.lookup y.1 = some .local) (hx : scope.names.lookup xn = some .local)
    (hi : wpAny (model PG w) A (eval iter env) (fun xv s₁ => xv = .str x t ∧ s₁ = s) E s)
    (test : ∀ (C : Addr) (i u : Nat) s₃ m₃ E', x.cps[i]? = some u → ∀ tk, s₃.heap.Ns C m₃ → m₃ xn = some (.str ⟨#[u]⟩ tk) →
      wpAny (model PG w) A (isTrue c (compEnv scope C env) (eval c (compEnv scope C env))) (fun ok s₄ => ok = p u ∧ Keeps s₃ s₄) E' s₃)
    (el : ∀ (C : Addr) (u : Nat) s₃ m₃ E', ∀ tk, s₃.heap.Ns C m₃ → m₃ xn = some (.str ⟨#[u]⟩ tk) → wpAny (model PG w) A (eval elt (compEnv scope C env)) (fun y s₄ => y = .str ⟨#[u]⟩ tk ∧ Keeps s₃ s₄) E' s₃)
    (done : ∀ D h' tk vs c, Fr h₀ L h' m → News h₀ L h' ((D, lisO vs c) :: news) → DTs ((D, lisO vs c) :: news) reg vs ((x.cps.toList.filter p).map fun c => .str ⟨#[c]⟩) → Q (.ref D) { s with heap := h', toks := tk })
    (hs : ∀ x, foldedSetIterable iter env x = pure x := by intro _; rfl) :
    wpAny (model PG w) A (eval (.ListComp elt [⟨.Name xn px, iter, [c], 0⟩] scope pos) env) Q E s := by
  refine wpAny_ListComp_walk (fun v => match v with | .str y _ => p (y.cps.getD 0 0) | _ => false) (fun v y => y = v) hfree hcell hkind hnames hx (wpAny_mono hi (fun xv s₁ h₁ => ?_) fun _ _ e => e) hs
  obtain ⟨rfl, rfl⟩ := h₁
  refine wpAny_pyIter_str fun o St W hst => ?_
  refine ⟨_, _, _, _, _, St, rfl, W A hh, hsz, hst, fun b hb => ?_, ⟨?_, ?_⟩, ?_⟩
  · rw [List.mem_singleton.mp hb]; simp [Heap.size_push]
  · rintro C i v s₃ m₃ E' ⟨u, tk, hu, rfl⟩ hn hm _ _
    refine wpAny_tests_one ?_
    exact test C i u s₃ m₃ E' hu tk hn hm
  · rintro C i v s₃ m₃ E' ⟨u, tk, hu, rfl⟩ _ hn hm _ _
    exact el C u s₃ m₃ E' tk hn hm
  · intro D h' tk ys vs hD hl hp hlen hP hF hk
    have hk' : ∀ b o, s₁.heap.get? b = some o → h'.get? b = some o := fun b o e => hk b o (by simpa using Nat.ne_of_lt (Heap.lt_size e)) (Heap.get?_push_of_some _ e)
    have hno : s₁.heap.get? D = none := by
      cases e : s₁.heap.get? D with
      | none => rfl
      | some o => exact absurd (Heap.get?_push_of_some _ e) (by rw [hD]; exact fun h => nomatch h)
    obtain ⟨cc, hp⟩ := hp
    have e := paired_eq hF
    refine done D h' tk ys.toList cc (F.keeps hk') (fun q hq => ?_) ?_
    · rcases List.mem_cons.mp hq with rfl | hq
      · refine ⟨hp, fun e2 => ?_, ?_⟩
        · obtain ⟨oL, _, _, hL, _⟩ := F.ns
          rw [← e2] at hL
          rw [hL] at hno
          cases hno
        · cases e2 : h₀.get? D with
          | none => rfl
          | some o => rw [F.keep _ _ e2] at hno; cases hno
      · exact N.grown hk' q hq
    · rw [e]
      exact signs_filter (by simpa using hlen) fun j v hv => by
        obtain ⟨c, u, h1, h2⟩ := hP j v hv
        exact ⟨c, u, by simpa using h1, h2⟩
end
noncomputable def badSign (c : Nat) : Bool := Txt.isspace ⟨#[c]⟩ || !(Builtin.Str.occurrences (Str.ofString "()[]{},:") ⟨#[c]⟩ 0 (Str.ofString "()[]{},:").length 1).isEmpty
noncomputable def isOp (x : Str) : Bool := (x.cps.toList.filter badSign).isEmpty
theorem is_op_ctr (x : Str) (t : Tok) : RCtr w mean mg mb 67 1 160 [.str x t]
   (fun news reg => x.cps.size ≤ 10 ∧ x ≠ Str.ofString "" ∧ ∀ c ∈ x.cps.toList, c < 128) (fun r => r = .bool (isOp x)) := by
  unfold RCtr
  k_fill
  intro dp un gd cn cs a₀ ccd cl outer A₀ base h₀ L m news reg s Q E B F X N T hk hpre hdp hun hret
  refine bc fun z9 => ?_
  refine el3 hpre fun hx1 hx2 hx3 => ?_; try clear hpre
  refine z9 ?_; clear z9; try k_unmd
  k_dflt ktr_enter
  refine' (let AA := _; let EE := _; (?_ : wpAny _ AA _ _ EE _))
  iterate 9 walk1
  rw [if_pos (by simpa using hx2)]
  iterate 2 walk1
  k_dflt (refine' comp_str (reg := reg) badSign ?hh ?F ?N ?hsz ?hfree ?hcell ?hkind ?hnames ?hx ?hi ?test ?el ?done ?hs)
  (case hh => rfl); (case F => k_asm); (case N => k_asm); (case hsz => rw [sizeLine_eq]; exact Nat.le_trans hx1 (by decide)); (case hfree => decide); (case hcell => decide); (case hkind => rfl); (case hnames => decide); (case hx => rfl)
  (case hs => intro _; with_unfolding_all rfl)
  case hi => walk1; exact ⟨rfl, rfl⟩
  case test =>
    intro C i u s₃ m₃ E' hu tk hns hm
    repeat' (first | (refine' cname_locP hns hm ?_ ?hk ?hl ?hd; (case hk => rfl); (case hl => rfl); (case hd => decide)) | walk1)
    all_goals first | exact ⟨_, _, rfl, fun _ _ e => e⟩ | (simp only [badSign, *]; done) | (simp only [badSign, *]; rfl)
  case el =>
    intro C u s₃ m₃ E' tk hns hm
    refine' cname_locP hns hm ?_ ?hk ?hl ?hd; (case hk => rfl); (case hl => rfl); (case hd => decide)
    exact ⟨rfl, _, _, rfl, fun _ _ e => e⟩
  case done =>
    intro D h' tk vs c F1 N1 hd
    iterate 3 walk1
    have hlt : ∀ c ∈ x.cps.toList.filter badSign, c < 128 := fun c hc => hx3 c (List.mem_filter.mp hc).1
    refine eqR (db := .list []) (lis_reads (reg := reg) (by k_asm) (.tail _ (.head _)) (hd.gr (Gr.cons (R := fun _ => False)).toGw id)) (lis_reads (reg := reg) (by k_asm) (.head _) .nil) (str_shaped hlt) rfl (by walk_at "ROOM") ?_
    walk_at "S"
    refine hret _ _ _ (by k_asm) (by rename News _ _ _ _ => N5; exact fun p hp => N5 p (.tail _ (.tail _ hp))) ?_
    unfold isOp
    cases x.cps.toList.filter badSign <;> rfl
end
section
variable {w : World} {mean : ExcName → Option Value} {mg mb : Str → Option Value}
noncomputable def OpOk (x : Str) : Prop := ∃ c, x = ⟨#[c]⟩ ∧ c < 128 ∧ badSign c = false ∧ c ≠ 63
theorem OpOk.isOp {x : Str} (h : OpOk x) : isOp x = true := by
  obtain ⟨c, rfl, _, h, _⟩ := h
  simp [Mine.isOp, h]
theorem OpOk.pre {x : Str} (h : OpOk x) : x.cps.size ≤ 10 ∧ x ≠ Str.ofString "" ∧ ∀ c ∈ x.cps.toList, c < 128 := by
  obtain ⟨c, rfl, h, _⟩ := h
  refine ⟨by simp, fun e => ?_, by simpa using h⟩
  have := congrArg (fun y : Str => y.cps.size) e
  rw [show (Str.ofString "").cps.size = 0 by kernel_rfl] at this
  exact absurd this (by simp)
theorem bank_require (b : Addr) (op : Str) (t : Tok) : RCtr w mean mg mb 112 2 200 [.ref b, .str op t]
   (fun news reg => OpOk op) (fun r => r = .none) := by
  unfold RCtr
  k_fill
  intro dp un gd cn cs a₀ ccd cl outer A₀ base h₀ L m news reg s Q E B F X N T hk hpre hdp hun hret
  k_dflt ktr_enter
  refine' (let AA := _; let EE := _; let TT : Nat := _; (?_ : wpAny _ AA _ _ EE ⟨_, _, _, TT, _⟩))
  with_reducible rename Fr _ _ _ _ => kF
  refine' (let mm : Str → Option Value := _; (fun (kF : Fr _ _ _ mm) => ?_) kF); try k_unmd
  walk_at "NM"
  walk_at "S"
  try k_fold
  k_dflt (refine' RCtr.use (reg := fun _ => 0) (is_op_ctr op _) ?B ?F ?X ?N ?T ?k ?pre ?d ?u ?_)
  (case B | F | X | N | T => k_asm); (case k => first | exact rfl | assumption); (case d | u => walk_at "ROOM")
  (case pre => exact hpre.pre)
  intro r' h' tk' F' N' hp'; (try k_sweep); (first | (obtain ⟨t', e'⟩ := hp'; subst e') | (have e' := hp'; subst e')); (try dsimp only); (try k_fold)
  rw [hpre.isOp]
  refine bc fun z9 => ?_
  refine ex1 hpre fun c h9 => ?_; refine el4 h9 fun hq1 h1 h2 h3 => ?_; clear h9; try clear hpre
  obtain rfl := hq1
  refine z9 ?_; clear z9; try k_unmd
  iterate 11 walk1
  rw [if_neg (show ¬ (Txt.item { cps := #[c] } 0 == Str.ofString "?") = true by
    rw [show Txt.item { cps := #[c] } 0 = { cps := #[c] } from rfl, show Str.ofString "?" = { cps := #[63] } by kernel_rfl]
    simpa using h3)]
  walk_at "S"
  exact hret _ _ _ (by k_asm) (by k_asm) rfl
theorem idx_get : ∀ {nodes : List Node} {k : List Atom} {i : Nat}, idx nodes k = some i → ∃ n, nodes[i]? = some n ∧ nkey n = k
  | [], _, _, h => by simp [idx] at h
  | p :: r, k, i, h => by
    unfold idx at h
    split at h
    · rename_i e; cases h; exact ⟨p, rfl, e⟩
    · obtain ⟨j, hj, rfl⟩ := Option.map_eq_some_iff.mp h
      obtain ⟨n, h1, h2⟩ := idx_get hj
      exact ⟨n, by simpa using h1, h2⟩
noncomputable def takeN (nodes : List Node) (nd : Node) : List Node := match idx nodes (nkey nd) with | some _ => nodes | none => nodes ++ [nd]
noncomputable def takeI (nodes : List Node) (nd : Node) : Nat := match idx nodes (nkey nd) with | some n => n | none => nodes.length
theorem bank_take (o : Nat) (ho : 15 ≤ o) (b : Addr) (nodes : List Node) (op : Str) (kids : List Nat) (t : Tok) (ka : Addr) (us : List Value) (c : Nat) : Ctr w mean mg mb 105 4 280 [.ref b, .str op t, .ref ka]
   (fun news reg => BankR w news reg o b nodes ∧ OpOk op ∧ (ka, tupO us c) ∈ news ∧ IntsAre us (nats kids) ∧ kids.length ≤ 2 ∧ (∀ k ∈ kids, k < nodes.length) ∧ nodes.length < 500)
   (fun news reg r news' reg' => (∃ t, r = .int (takeI nodes (op, kids) : Int) t) ∧ BankR w news' reg' o b (takeN nodes (op, kids)) ∧ Gr (RS o [1, 2, 3, 4]) reg news reg' news') := by
  unfold Ctr
  k_fill
  intro dp un gd cn cs a₀ ccd cl outer A₀ base h₀ L m news reg s Q E B F X N T hk hpre hdp hun hret
  refine bc fun z9 => ?_
  refine el7 hpre fun hB hop mka hI hk2 hkl hlen => ?_; try clear hpre
  refine z9 ?_; clear z9; try k_unmd
  k_dflt (refine' code_defC ?k1 ?k2 ?k3 ?k4 ?k5 ?kA ?kF ?kK ?k6 ?k7 ?k8 ?k9 ?kB ?kD ?_ ?c2 ?c3 ?c4; (case kA => exact rfl); (case kF => exact rfl); (case kK => assumption); (case k1 => k_asm); (case k2 => k_asm); (case k3 => k_asm); (case k4 => k_asm); (case k5 => k_asm); (case k6 => k_is); (case k7 => k_is); (case k8 => ktr_room); (case k9 => exact BindsTo.of_eq rfl); (case kB => exact rfl); (case kD => decide +kernel); (case c2 => exact rfl); (case c3 => exact rfl); (case c4 => exact rfl); k_whole; intro g' L' h' tk' cells' FG' F' N' Y' B' X' T' l1; k_cells Y'; (try simp only [List.cons_append, List.nil_append] at N'); (try dsimp only); (try k_fold))
  refine' (let AA := _; let EE := _; let QQ := _; let TT : Nat := _; (?_ : wpAny _ AA _ QQ EE ⟨_, _, _, TT, _⟩))
  refine' (let mm : Str → Option Value := _; (fun (F' : Fr _ _ _ mm) => ?_) F'); try k_unmd
  rename_i o1 d1
  refine bc fun z9 => ?_
  obtain ⟨reg1, g1, rc⟩ := Gr.fresh (R := fun _ => False) (reg := reg) (k := 3) (o := o1) (fun p hp => Nat.lt_succ_of_lt (l1 p hp))
  refine z9 ?_; clear z9; try k_unmd
  replace hB := hB.gr g1.toGw id id off_no
  replace d1 : o1.data = .cell (some (.ref b)) := d1
  have mc : (Nat.succ L', o1) ∈ (Nat.succ L', o1) :: news := .head _
  have mka1 := g1.keep _ mka id
  refine bc fun z9 => ?_
  obtain ⟨⟨bd, ln, dn, lw, ld, t1, t2, t3, t4, cn', cw, cd, vn, vw, vd, ws, ds, od⟩, a⟩ := id hB
  refine z9 ?_; clear z9; try k_unmd
  dsimp only at a
  refine bc fun z9 => ?_
  obtain ⟨b1, b2, b3, b4, b5, b6, b7, b8, b9, b10, b11, b12, b13, b14, b15, b16, b17, b18, b19⟩ := a
  refine z9 ?_; clear z9; try k_unmd
  walk_at "S"
  refine call_tuple_same (items := us.toArray) ⟨_, News.get (by k_asm) (.tail _ mka1), rfl, c, rfl⟩ ?_
  walk_at "S"
  refine tadd_N (by k_asm) (by k_asm) (.head _) (.tail _ mka1) (by have := hI.length; simp [nats] at this ⊢; omega) fun r2 c2 h2 news2 F2 N2 sub2 m2 => ?_
  try k_sweep
  have g2 : Gr (fun _ => False) reg1 ((Nat.succ L', o1) :: news) reg1 news2 := Gr.cons.trans (Gr.sub sub2)
  replace mc := g2.keep _ mc id
  replace hB := hB.gr g2.toGw id id off_no
  replace b1 := g2.inst b1
  have gw9 := g2.toGw
  have t9 := gw9.regw b2 b3 (by walk_at "NR"); replace b2 := gw9.at b2 b3 (by walk_at "NR"); replace b3 := t9; clear t9
  have t9 := gw9.regw b4 b5 (by walk_at "NR"); replace b4 := gw9.at b4 b5 (by walk_at "NR"); replace b5 := t9; clear t9
  have t9 := gw9.regw b7 b8 (by walk_at "NR"); replace b7 := gw9.at b7 b8 (by walk_at "NR"); replace b8 := t9; clear t9
  have t9 := gw9.regw b11 b12 (by walk_at "NR"); replace b11 := gw9.at b11 b12 (by walk_at "NR"); replace b12 := t9; clear t9
  have t9 := gw9.regw b15 b16 (by walk_at "NR"); replace b15 := gw9.at b15 b16 (by walk_at "NR"); replace b16 := t9; clear t9
  clear gw9
  replace b9 := b9.gr g2.toGw
  replace b6 := b6.gr g2.toGw id
  have hkey : ItemsAre (atomKind w) (nkey (op, kids)) ([.str op t] ++ us) := nkey_items (n := (op, kids)) hI
  walk_at "S"
  refine tin_N (by k_asm) b7 b9 m2 hkey b10 (by walk_at "ROOM") fun tk3 => ?_
  cases hidx : idx nodes (nkey (op, kids)) with
  | some n =>
    dsimp only [Option.isSome]
    walk_at "S"
    refine tget_N (by k_asm) b7 b9 m2 hkey hidx (by walk_at "ROOM") fun tn tk4 => ?_
    walk_at "S"
    refine hret _ news2 reg1 _ _ (by k_asm) (by k_asm) ⟨⟨tn, ?_⟩, ?_, (g1.trans g2).no⟩
    · unfold takeI; rw [hidx]
    · unfold takeN; rw [hidx]; exact hB
  | none =>
    dsimp only [Option.isSome]
    walk_at "S"
    try k_fold
    k_dflt (refine' RCtr.use (reg := fun _ => 0) (bank_require b op t) ?B ?F ?X ?N ?T ?k ?pre ?d ?u ?_)
    (case B | F | X | N | T => k_asm); (case k => first | exact rfl | assumption); (case d | u => walk_at "ROOM")
    (case pre => exact hop)
    intro r' h' tk' F' N' hp'; (try k_sweep); (first | (obtain ⟨t', e'⟩ := hp'; subst e') | (have e' := hp'; subst e')); (try dsimp only); (try k_fold)
    walk_at "S"
    replace m2 : (r2, tupO (.str op t :: us) c2) ∈ news2 := m2
    have hul : us.length = kids.length := by simpa [nats] using hI.length
    try dsimp only
    refine' tslice_N ?F ?N m2 ?hz ?_ ?hs ?hg
    (case F => k_asm); (case N => k_asm); (case hz => rw [sizeLine_eq]; omega); (case hs => with_unfolding_all rfl); (case hg => intro _; with_unfolding_all rfl)
    intro D3 h3 F3 N3 l3
    walk_at "S"
    refine' iter_tup_x (vs := us) (c := 0) (reg := reg1) (fun i news₁ reg₁ => Gr (fun _ => False) reg1 ((D3, tupO us 0) :: news2) reg₁ news₁) ?hh ?F ?N ?J ?hx ?hp ?hat ?mono ?turn ?done ?hE
    (case hh => rfl); (case F => k_asm); (case N => k_asm); (case J => exact Gr.refl); (case hx => rfl); (case hp => rfl)
    (case hat => exact fun i news reg h => h.keep _ (.head _) id)
    (case mono => exact fun b i news₁ reg₁ news' reg' hb h _ l => h.lo hb l)
    (case hE => passes_own)
    case turn =>
      intro i v news₄ reg₄ h4 tk4 hv g4 F4 N4
      refine' (let mm : Str → Option Value := _; (fun (F4 : Fr _ _ _ mm) => ?_) F4); try k_unmd
      refine bc fun z9 => ?_
      refine ex2 (ints_at hI hv) fun k t' h9 => ?_; refine el2 h9 fun hq2 hk' => ?_; clear h9
      obtain rfl := hq2
      refine z9 ?_; clear z9; try k_unmd
      have hkn : k < nodes.length := hkl k (List.mem_of_getElem? hk')
      have c1 := g4.inst (.tail _ b1)
      have c2 := g4.at (.tail _ b2) b3 id
      have mc4 := g4.keep _ (.tail _ mc) id
      have hvl : vn.length = nodes.length := by have := b6.length; simpa using this
      have c4 := g4.at (.tail _ b4) b5 id
      walk_at "S"
      refine len_N (by k_asm) c4 hvl (by omega) fun tk5 tk6 => ?_
      walk_at "S"
      exact TurnEnd.mk (news₂ := news₄) (reg₂ := reg₄) (fun _ => False) (by k_asm) (by k_asm) (id) (Gr.refl) ⟨⟨_, rfl⟩, g4⟩
    case done =>
      intro kv news₄ reg₄ h4 tk4 g4 F4 N4
      refine' (let mm : Str → Option Value := _; (fun (F4 : Fr _ _ _ mm) => ?_) F4); try k_unmd
      have gc := (Gr.cons (R := fun _ => False) (reg := reg1) (q := (D3, tupO us 0)) (news := news2)).trans g4
      replace b1 := gc.inst b1
      replace mc := gc.keep _ mc id
      replace m2 := gc.tup m2
      have gw9 := gc.toGw
      have t9 := gw9.regw b2 b3 (by walk_at "NR"); replace b2 := gw9.at b2 b3 (by walk_at "NR"); replace b3 := t9; clear t9
      have t9 := gw9.regw b4 b5 (by walk_at "NR"); replace b4 := gw9.at b4 b5 (by walk_at "NR"); replace b5 := t9; clear t9
      have t9 := gw9.regw b7 b8 (by walk_at "NR"); replace b7 := gw9.at b7 b8 (by walk_at "NR"); replace b8 := t9; clear t9
      have t9 := gw9.regw b11 b12 (by walk_at "NR"); replace b11 := gw9.at b11 b12 (by walk_at "NR"); replace b12 := t9; clear t9
      have t9 := gw9.regw b15 b16 (by walk_at "NR"); replace b15 := gw9.at b15 b16 (by walk_at "NR"); replace b16 := t9; clear t9
      clear gw9
      replace b9 := b9.gr gc.toGw
      replace b6 := b6.gr gc.toGw id
      have rc4 : reg₄ (Nat.succ L') = 3 := (gc.regs (Nat.succ L', o1) (sub2 _ (.tail _ (.head _)))).trans rc
      have hvl : vn.length = nodes.length := by have := b6.length; simpa using this
      clear g4
      walk_at "S"
      refine len_N (by k_asm) b4 hvl (by omega) fun tk5 tk6 => ?_
      walk_at "S"
      refine tset_N (r := o + 2) (reg := reg₄) (by k_asm) (by k_asm) b7 b8 b9 m2 hkey hidx (by rw [sizeLine_eq]; omega) (by walk_at "ROOM") fun h5 news5 od5 tk5 F5 N5 g5 m5 d5 => ?_
      k_sweep
      replace b1 := g5.inst b1
      replace mc := (g5.both mc rc4 (by walk_at "NR")).1
      replace m2 := g5.tup m2
      have gw9 := g5.toGw
      have t9 := gw9.regw b2 b3 (by walk_at "NR"); replace b2 := gw9.at b2 b3 (by walk_at "NR"); replace b3 := t9; clear t9
      have t9 := gw9.regw b4 b5 (by walk_at "NR"); replace b4 := gw9.at b4 b5 (by walk_at "NR"); replace b5 := t9; clear t9
      have t9 := gw9.regw b11 b12 (by walk_at "NR"); replace b11 := gw9.at b11 b12 (by walk_at "NR"); replace b12 := t9; clear t9
      have t9 := gw9.regw b15 b16 (by walk_at "NR"); replace b15 := gw9.at b15 b16 (by walk_at "NR"); replace b16 := t9; clear t9
      clear gw9
      replace b8 := g5.reg' b7 b8
      replace b6 := b6.gr g5.toGw (by walk_at "NR")
      walk_at "S"
      refine append_N (r := o + 1) (reg := reg₄) (by k_asm) (by k_asm) b4 b5 (by rw [sizeLine_eq]; omega) fun h6 news6 F6 N6 g6 m6 => ?_
      k_sweep
      replace b1 := g6.inst b1
      replace mc := (g6.both mc rc4 (by walk_at "NR")).1
      replace m2 := g6.tup m2
      have gw9 := g6.toGw
      have t9 := gw9.regw b2 b3 (by walk_at "NR"); replace b2 := gw9.at b2 b3 (by walk_at "NR"); replace b3 := t9; clear t9
      have t9 := gw9.regw m5 b8 (by walk_at "NR"); replace m5 := gw9.at m5 b8 (by walk_at "NR"); replace b8 := t9; clear t9
      have t9 := gw9.regw b11 b12 (by walk_at "NR"); replace b11 := gw9.at b11 b12 (by walk_at "NR"); replace b12 := t9; clear t9
      have t9 := gw9.regw b15 b16 (by walk_at "NR"); replace b15 := gw9.at b15 b16 (by walk_at "NR"); replace b16 := t9; clear t9
      clear gw9
      replace b5 := g6.reg' b4 b5
      replace b6 := b6.gr g6.toGw (by walk_at "NR")
      replace d5 := d5.gr g6.toGw
      walk_at "S"
      try dsimp only
      refine' tslice_N ?F ?N m2 ?hz ?_ ?hs ?hg
      (case F => k_asm); (case N => k_asm); (case hz => rw [sizeLine_eq]; omega); (case hs => with_unfolding_all rfl); (case hg => intro _; with_unfolding_all rfl)
      intro D7 h7 F7 N7 l7
      walk_at "S"
      refine' comp_tup (vs := us) (c := 0) (reg := reg₄) (fun ys news₁ reg₁ => Gr (fun _ => False) reg₄ ((D7, tupO us 0) :: news6) reg₁ news₁ ∧ ∃ zs, IntsAre ys zs) ?hh ?F ?N ?J ?hat ?mono ?n 3 ?c ?k ?x ?turn ?done
      (case hh => rfl); (case F => k_asm); (case N => k_asm)
      (case J => exact ⟨Gr.refl, [], .nil⟩)
      (case hat => exact fun ys news reg h => h.1.keep _ (.head _) id)
      (case mono => exact fun b ys news₁ reg₁ news' reg' hb h _ l => ⟨h.1.lo hb l, h.2⟩)
      (case n => rw [sizeLine_eq]; omega)
      (case c => decide); (case k => rfl); (case x => rfl)
      case turn =>
        intro ys v C oC mC news₁ reg₁ h tk E' hv hp9 hC rC hns hmv F1 N1
        refine bc fun z9 => ?_
        first | refine el3 hp9 fun g zs hy => ?_ | (refine ex1 hp9 fun g h9 => ?_; refine el2 h9 fun zs hy => ?_; clear h9) | refine ex2 hp9 fun g zs hy => ?_ | obtain ⟨g, zs, hy⟩ := hp9; try clear hp9
        refine z9 ?_; clear z9; try k_unmd
        replace F1 : Fr g' L' h _ := F1
        replace N1 : News g' L' h news₁ := N1
        have c1 := g.inst (.tail _ b1)
        have c2 := g.at (.tail _ b2) b3 id
        have mc1 := g.keep _ (.tail _ mc) id
        have cl := g.keep _ (.tail _ b11) id
        refine bc fun z9 => ?_
        refine ex2 (ints_at hI hv) fun k t' h9 => ?_; refine el2 h9 fun hq3 hk' => ?_; clear h9
        obtain rfl := hq3
        refine z9 ?_; clear z9; try k_unmd
        have hkn : k < nodes.length := hkl k (List.mem_of_getElem? hk')
        obtain ⟨tw, hw⟩ := b13.get k _ (List.getElem?_eq_getElem (by omega))
        walk_at "S"
        walk1
        walk_at "S"
        exact EltEnd.mk (news₂ := news₁) (reg₂ := reg₁) (fun _ => False) (by k_asm) (by k_asm) (id) (Gr.refl) ⟨g, _, hy.append (.cons _ _ .nil)⟩
      case done =>
        intro ys D c₁ news₁ reg₁ h tk hl hp9 hD rD ltD F1 N1
        refine bc fun z9 => ?_
        first | refine el3 hp9 fun g zs hy => ?_ | (refine ex1 hp9 fun g h9 => ?_; refine el2 h9 fun zs hy => ?_; clear h9) | refine ex2 hp9 fun g zs hy => ?_ | obtain ⟨g, zs, hy⟩ := hp9; try clear hp9
        refine z9 ?_; clear z9; try k_unmd
        replace F1 : Fr g' L' h _ := F1
        replace N1 : News g' L' h news₁ := N1
        walk_at "S"
        refine LSm.sum_ints (by k_asm) (by k_asm) rfl ⟨_, News.get (by k_asm) hD, rfl, _, rfl⟩ hy fun h8 tk8 t8 F8 N8 => ?_
        walk_at "S"
        have hwl : vw.length = nodes.length := b13.length.trans b14
        have gA : Gr (fun _ => False) reg₄ news6 reg₁ news₁ := Gr.cons.trans g
        have gk := gA
        replace b1 := gk.inst b1
        replace rc4 : reg₁ (Nat.succ L') = 3 := (gk.regs _ mc).trans rc4
        replace mc := gk.keep _ mc id
        replace m2 := gk.tup m2
        have gw9 := gk.toGw
        have t9 := gw9.regw b2 b3 (by walk_at "NR"); replace b2 := gw9.at b2 b3 (by walk_at "NR"); replace b3 := t9; clear t9
        have t9 := gw9.regw m5 b8 (by walk_at "NR"); replace m5 := gw9.at m5 b8 (by walk_at "NR"); replace b8 := t9; clear t9
        have t9 := gw9.regw m6 b5 (by walk_at "NR"); replace m6 := gw9.at m6 b5 (by walk_at "NR"); replace b5 := t9; clear t9
        have t9 := gw9.regw b11 b12 (by walk_at "NR"); replace b11 := gw9.at b11 b12 (by walk_at "NR"); replace b12 := t9; clear t9
        have t9 := gw9.regw b15 b16 (by walk_at "NR"); replace b15 := gw9.at b15 b16 (by walk_at "NR"); replace b16 := t9; clear t9
        clear gw9
        replace b6 := b6.gr gk.toGw id
        replace d5 := d5.gr gk.toGw
        refine append_N (r := o + 3) (reg := reg₁) (by k_asm) (by k_asm) b11 b12 (by rw [sizeLine_eq]; omega) fun h9 news9 F9 N9 g9 m9 => ?_
        k_sweep
        replace b1 := g9.inst b1
        replace mc := (g9.both mc rc4 (by walk_at "NR")).1
        replace m2 := g9.tup m2
        have gw9 := g9.toGw
        have t9 := gw9.regw b2 b3 (by walk_at "NR"); replace b2 := gw9.at b2 b3 (by walk_at "NR"); replace b3 := t9; clear t9
        have t9 := gw9.regw m5 b8 (by walk_at "NR"); replace m5 := gw9.at m5 b8 (by walk_at "NR"); replace b8 := t9; clear t9
        have t9 := gw9.regw m6 b5 (by walk_at "NR"); replace m6 := gw9.at m6 b5 (by walk_at "NR"); replace b5 := t9; clear t9
        have t9 := gw9.regw b15 b16 (by walk_at "NR"); replace b15 := gw9.at b15 b16 (by walk_at "NR"); replace b16 := t9; clear t9
        clear gw9
        replace b12 := g9.reg' b11 b12
        replace b6 := b6.gr g9.toGw (by walk_at "NR")
        replace d5 := d5.gr g9.toGw
        clear g hy hD rD ltD
        walk_at "S"
        try dsimp only
        refine' tslice_N ?F ?N m2 ?hz ?_ ?hs ?hg
        (case F => k_asm); (case N => k_asm); (case hz => rw [sizeLine_eq]; omega); (case hs => with_unfolding_all rfl); (case hg => intro _; with_unfolding_all rfl)
        intro D10 h10 F10 N10 l10
        walk_at "S"
        refine' comp_tup (vs := us) (c := 0) (reg := reg₁) (fun ys news₂ reg₂ => Gr (fun _ => False) reg₁ ((D10, tupO us 0) :: news9) reg₂ news₂ ∧ ∃ zs, IntsAre ys zs) ?hh ?F ?N ?J ?hat ?mono ?n 3 ?c ?k ?x ?turn ?done
        (case hh => rfl); (case F => k_asm); (case N => k_asm)
        (case J => exact ⟨Gr.refl, [], .nil⟩)
        (case hat => exact fun ys news reg h => h.1.keep _ (.head _) id)
        (case mono => exact fun b ys news₁ reg₁ news' reg' hb h _ l => ⟨h.1.lo hb l, h.2⟩)
        (case n => rw [sizeLine_eq]; omega)
        (case c => decide); (case k => rfl); (case x => rfl)
        case turn =>
          intro ys v C oC mC news₂ reg₂ h tk E' hv hp9 hC rC hns hmv F1 N1
          refine bc fun z9 => ?_
          first | refine el3 hp9 fun g zs hy => ?_ | (refine ex1 hp9 fun g h9 => ?_; refine el2 h9 fun zs hy => ?_; clear h9) | refine ex2 hp9 fun g zs hy => ?_ | obtain ⟨g, zs, hy⟩ := hp9; try clear hp9
          refine z9 ?_; clear z9; try k_unmd
          replace F1 : Fr g' L' h _ := F1
          replace N1 : News g' L' h news₂ := N1
          have c1 := g.inst (.tail _ b1)
          have c2 := g.at (.tail _ b2) b3 id
          have mc1 := g.keep _ (.tail _ mc) id
          have cl := g.keep _ (.tail _ b15) id
          refine bc fun z9 => ?_
          refine ex2 (ints_at hI hv) fun k t' h9 => ?_; refine el2 h9 fun hq4 hk' => ?_; clear h9
          obtain rfl := hq4
          refine z9 ?_; clear z9; try k_unmd
          have hkn : k < nodes.length := hkl k (List.mem_of_getElem? hk')
          obtain ⟨tw, hw⟩ := b17.get k _ (List.getElem?_eq_getElem (by omega))
          walk_at "S"
          walk1
          walk_at "S"
          exact EltEnd.mk (news₂ := news₂) (reg₂ := reg₂) (fun _ => False) (by k_asm) (by k_asm) (id) (Gr.refl) ⟨g, _, hy.append (.cons _ _ .nil)⟩
        case done =>
          intro ys D' c₂ news₂ reg₂ h tk hl' hp9 hD rD ltD F1 N1
          refine bc fun z9 => ?_
          first | refine el3 hp9 fun g zs' hy => ?_ | (refine ex1 hp9 fun g h9 => ?_; refine el2 h9 fun zs' hy => ?_; clear h9) | refine ex2 hp9 fun g zs' hy => ?_ | obtain ⟨g, zs', hy⟩ := hp9; try clear hp9
          refine z9 ?_; clear z9; try k_unmd
          replace F1 : Fr g' L' h _ := F1
          replace N1 : News g' L' h news₂ := N1
          have hdl : vd.length = nodes.length := b17.length.trans b18
          have gk : Gr (fun _ => False) reg₁ news9 reg₂ news₂ := Gr.cons.trans g
          replace b1 := gk.inst b1
          replace rc4 : reg₂ (Nat.succ L') = 3 := (gk.regs _ mc).trans rc4
          replace mc := gk.keep _ mc id
          replace m2 := gk.tup m2
          have gw9 := gk.toGw
          have t9 := gw9.regw b2 b3 (by walk_at "NR"); replace b2 := gw9.at b2 b3 (by walk_at "NR"); replace b3 := t9; clear t9
          have t9 := gw9.regw m5 b8 (by walk_at "NR"); replace m5 := gw9.at m5 b8 (by walk_at "NR"); replace b8 := t9; clear t9
          have t9 := gw9.regw m6 b5 (by walk_at "NR"); replace m6 := gw9.at m6 b5 (by walk_at "NR"); replace b5 := t9; clear t9
          have t9 := gw9.regw m9 b12 (by walk_at "NR"); replace m9 := gw9.at m9 b12 (by walk_at "NR"); replace b12 := t9; clear t9
          have t9 := gw9.regw b15 b16 (by walk_at "NR"); replace b15 := gw9.at b15 b16 (by walk_at "NR"); replace b16 := t9; clear t9
          clear gw9
          replace b6 := b6.gr gk.toGw id
          replace d5 := d5.gr gk.toGw
          clear g
          walk_at "S"
          refine ladd_N (by k_asm) (by k_asm) (.tail _ hD) (.head _) (by rw [sizeLine_eq]; simp; omega) fun D11 h11 F11 N11 l11 => ?_
          try k_sweep
          walk_at "S"
          refine max_list_N rfl (by k_asm) (by k_asm) ⟨_, News.get (by k_asm) (.head _), rfl, _, rfl⟩ (hy.append (.cons _ _ .nil)) (by simp) fun h12 M t12 tk12 F12 N12 _ _ => ?_
          walk_at "S"
          refine append_N (r := o + 4) (reg := reg₂) (by k_asm) (by k_asm) (.tail _ (.tail _ b15)) b16 (by rw [sizeLine_eq]; omega) fun h13 news13 F13 N13 g13 m13 => ?_
          k_sweep
          have gz : Gr (fun k => k = o + 4) reg₂ news₂ reg₂ news13 := Gr.cons.trans (Gr.cons.trans g13.toGr)
          replace b1 := gz.inst b1
          replace rc4 : reg₂ (Nat.succ L') = 3 := rc4
          replace mc := (gz.both mc rc4 (by walk_at "NR")).1
          replace m2 := gz.tup m2
          replace b16 := gz.reg' b15 b16
          have gw9 := gz.toGw
          have t9 := gw9.regw b2 b3 (by walk_at "NR"); replace b2 := gw9.at b2 b3 (by walk_at "NR"); replace b3 := t9; clear t9
          have t9 := gw9.regw m5 b8 (by walk_at "NR"); replace m5 := gw9.at m5 b8 (by walk_at "NR"); replace b8 := t9; clear t9
          have t9 := gw9.regw m6 b5 (by walk_at "NR"); replace m6 := gw9.at m6 b5 (by walk_at "NR"); replace b5 := t9; clear t9
          have t9 := gw9.regw m9 b12 (by walk_at "NR"); replace m9 := gw9.at m9 b12 (by walk_at "NR"); replace b12 := t9; clear t9
          clear gw9
          replace b6 := b6.gr gz.toGw (by walk_at "NR")
          replace d5 := d5.gr gz.toGw
          walk_at "S"
          refine len_N (n := nodes.length + 1) (by k_asm) m6 (by simp [hvl]) (by omega) fun tk14 tk15 => ?_
          walk_at "S"
          have gall : Gr (RS o [1, 2, 3, 4]) reg news reg₂ news13 := g1.no.trans (g2.no.trans (gc.no.trans ((g5.toGr.rs rfl).trans ((g6.toGr.rs rfl).trans (gA.no.trans ((g9.toGr.rs rfl).trans (gk.no.trans (gz.rs rfl))))))))
          refine hret _ news13 reg₂ _ _ (by k_asm) (by k_asm) ⟨⟨_, by unfold takeI; rw [hidx]; dsimp only; congr 1; omega⟩, ?_, gall⟩
          unfold takeN
          rw [hidx]
          have e6 : DT news13 reg₂ (.ref r2) (ndat (op, kids)) := .tuple m2 (.cons (.str op t) (by rw [nats_dat]; exact DTs.ints hI))
          refine ⟨⟨bd, ln, dn, lw, ld, t1, t2, t3, t4, _, _, _, _, _, _, ws ++ [_], ds ++ [_], od5⟩, ⟨b1, b2, b3, m6, b5, ?_, m5, b8, ?_, b10, m9, b12, b13.append (.cons _ _ .nil), by simp [b14], m13, b16, b17.append (.cons _ _ .nil), by simp [b18], ?_⟩⟩
          · rw [List.map_append]
            exact b6.append (.cons e6 .nil)
          · rw [idx_snoc hidx, List.length_append]
            exact d5
          · refine ⟨fun i n hi => ?_, by simp; omega⟩
            rcases Nat.lt_trichotomy i nodes.length with h | h | h
            · rw [List.getElem?_append_left h] at hi
              exact b19.kids i n hi
            · subst h
              simp at hi
              subst hi
              exact ⟨hk2, hkl⟩
            · rw [List.getElem?_eq_none (by simp; omega)] at hi
              cases hi
end
section
variable {w : World} {mean : ExcName → Option Value} {mg mb : Str → Option Value}
theorem AbvOk.snoc {news : Led} {reg reg' : Reg} {news' : Led} {R : Nat → Prop} {o : Nat} {f f' : Int → Option Value} {up : List Nat} {par : Nat → List Nat} {D : Addr} {c : Nat}
    (h : AbvOk news reg o f up par) (G : Gr R reg news reg' news') (hR : ¬ R (o + 13)) (hf : ∀ i : Nat, f' i = if i = up.length then some (.ref D) else f i)
    (hD : (D, lisO [] c) ∈ news') (rD : reg' D = o + 13) (hl : ∀ p ∈ news, p.1 < D) : AbvOk news' reg' o f' (up ++ [up.length]) (fun i => if i = up.length then [] else par i) := by
  have key : ∀ r, r < (up ++ [up.length]).length → (up ++ [up.length]).getD r 0 = r → r = up.length ∨ (r ≠ up.length ∧ r < up.length ∧ up.getD r 0 = r) := by
    intro r hr e
    rw [List.length_append, List.length_singleton] at hr
    rcases Nat.lt_or_ge r up.length with q | q
    · rw [getD_snoc_lt q] at e
      exact .inr ⟨Nat.ne_of_lt q, q, e⟩
    · exact .inl (by omega)
  have low : ∀ r, r < up.length → up.getD r 0 = r → f r = some (.ref D) → False := fun r n3 n4 e => by
    obtain ⟨a, c, vs, q1, q2, _⟩ := h.at_ r n3 n4
    rw [q1] at e
    have := hl _ q2
    cases e
    exact Nat.lt_irrefl _ this
  refine ⟨fun r hr e => ?_, fun r r' a hr e hr' e' h1 h2 => ?_⟩
  · rcases key r hr e with rfl | ⟨n1, n3, n4⟩
    · exact ⟨D, c, [], by rw [hf, if_pos rfl], hD, rD, by rw [if_pos rfl]; exact .nil⟩
    · obtain ⟨a, c, vs, q1, q2, q3, q4⟩ := h.at_ r n3 n4
      exact ⟨a, c, vs, by rw [hf, if_neg n1]; exact q1, G.at q2 q3 hR, G.regw q2 q3 hR, by rw [if_neg n1]; exact q4⟩
  · rcases key r hr e with rfl | ⟨n1, n3, n4⟩
    · rcases key r' hr' e' with rfl | ⟨m1, m3, m4⟩
      · rfl
      · rw [hf, if_pos rfl] at h1
        rw [hf, if_neg m1] at h2
        cases h1
        exact (low r' m3 m4 h2).elim
    · rcases key r' hr' e' with rfl | ⟨m1, m3, m4⟩
      · rw [hf, if_pos rfl] at h2
        rw [hf, if_neg n1] at h1
        cases h2
        exact (low r n3 n4 h1).elim
      · rw [hf, if_neg n1] at h1
        rw [hf, if_neg m1] at h2
        exact h.inj r r' a n3 n4 m3 m4 h1 h2
theorem AbvOk.app {news : Led} {reg : Reg} {news' : Led} {o : Nat} {f : Int → Option Value} {up : List Nat} {par : Nat → List Nat} {a : Addr} {c r n : Nat} {us : List Value}
    (h : AbvOk news reg o f up par) (G : Pt (o + 13) a reg news news') (hr : r < up.length) (er : up.getD r 0 = r) (hf : f r = some (.ref a)) (ha : (a, lisO us c) ∈ news') (ra : reg a = o + 13) (hI : IntsAre us (nats (par r ++ [n]))) :
    AbvOk news' reg o f up (fun i => if i = r then par r ++ [n] else par i) := by
  refine ⟨fun q hq e => ?_, h.inj⟩
  by_cases e2 : q = r
  · subst e2
    exact ⟨a, c, us, hf, ha, ra, by rw [if_pos rfl]; exact hI⟩
  · obtain ⟨b, c', vs, q1, q2, q3, q4⟩ := h.at_ q hq e
    refine ⟨b, c', vs, q1, G.pt _ q2 fun e3 => e2 ?_, q3, by rw [if_neg e2]; exact q4⟩
    exact h.inj q r a hq e hr er (by rw [q1]; exact congrArg (fun x => some (Value.ref x)) e3) hf
theorem IDict.mono {o : Obj} {f : Int → Option Value} {q q' : Nat} (h : IDict w o f q) (e : q ≤ q') : IDict w o f q' := by
  obtain ⟨kvs, h1, h2, h3⟩ := h
  exact ⟨kvs, h1, h2, Nat.le_trans h3 e⟩
theorem rsum_one {up : List Nat} {f : Nat → Nat} {a : Nat} : ∀ {n : Nat}, rsum up (fun c => f c + if c = a then 1 else 0) n ≤ rsum up f n + if a < n then 1 else 0
  | 0 => by simp [rsum]
  | n + 1 => by
    have ih := rsum_one (up := up) (f := f) (a := a) (n := n)
    rw [rsum, rsum]
    by_cases e : up.getD n 0 = n
    · rw [if_pos e, if_pos e]
      by_cases e2 : n = a
      · subst e2
        simp at ih ⊢
        omega
      · rw [if_neg e2]
        split at ih <;> split <;> omega
    · rw [if_neg e, if_neg e]
      split at ih <;> split <;> omega
theorem rsum_mem {up : List Nat} {n : Nat} : ∀ (l : List Nat) (f : Nat → Nat), rsum up (fun c => f c + if c ∈ l then 1 else 0) n ≤ rsum up f n + l.length
  | [], f => by simp
  | a :: l, f => by
    have h1 := rsum_mem (up := up) (n := n) l (fun c => f c + if c = a then 1 else 0)
    have h2 := rsum_one (up := up) (f := f) (a := a) (n := n)
    have h3 : rsum up (fun c => f c + if c ∈ a :: l then 1 else 0) n ≤ rsum up (fun c => f c + (if c = a then 1 else 0) + if c ∈ l then 1 else 0) n := by
      clear h1 h2
      induction n with
      | zero => exact Nat.le_refl _
      | succ n ih =>
        rw [rsum, rsum]
        refine Nat.add_le_add ih ?_
        split
        · simp only [List.mem_cons]
          by_cases e1 : n = a
          · rw [if_pos (.inl e1), if_pos e1]; omega
          · rw [if_neg e1]
            by_cases e2 : n ∈ l
            · rw [if_pos (.inr e2), if_pos e2]; omega
            · rw [if_neg (by rintro (h | h) <;> contradiction), if_neg e2]; omega
        · exact Nat.le_refl _
    rw [List.length_cons]
    split at h2 <;> omega
noncomputable def Hs.grow (S : Hs) (nd : Node) : Hs := { S with nodes := S.nodes ++ [nd], up := S.up ++ [S.up.length], par := fun c => if c = S.up.length then [] else if c ∈ nd.2.map (root S.up) then S.par c ++ [S.up.length] else S.par c }
noncomputable def Hs.add (S : Hs) (nd : Node) : Hs := match idx S.nodes (nkey nd) with | some _ => S | none => (S.grow nd).look S.up.length
theorem root_snoc {up : List Nat} (W : Wup up) {x : Nat} : ∀ {a : Nat}, a < up.length → root (up ++ [x]) a = root up a := by
  intro a
  induction a using Nat.strongRecOn with
  | ind a ih =>
    intro h
    conv => lhs; rw [root]
    conv => rhs; rw [root]
    rw [getD_snoc_lt h]
    by_cases q : up.getD a 0 < a
    · rw [dif_pos q, dif_pos q]
      exact ih _ q (Nat.lt_trans q h)
    · rw [dif_neg q, dif_neg q]
theorem Wup.snoc {up : List Nat} (U : Wup up) (h : up.length < 500) : Wup (up ++ [up.length]) := ⟨fun i => by
  rcases Nat.lt_trichotomy i up.length with h | h | h
  · rw [getD_snoc_lt h]; exact U.le i
  · rw [h, getD_snoc_eq]; exact Nat.le_refl _
  · simp [List.getD_eq_getElem?_getD]
    rw [List.getElem?_eq_none (by simp; omega)]
    exact Nat.zero_le _, by simp; omega⟩
theorem roots_snoc {up : List Nat} : rsum (up ++ [up.length]) (fun _ => 1) (up ++ [up.length]).length = rsum up (fun _ => 1) up.length + 1 := by
  rw [List.length_append, List.length_singleton, rsum, getD_snoc_eq, if_pos rfl, rsum_snoc (Nat.le_refl _) (f := fun _ => 1) (fun i hi _ => rfl)]
theorem Whs.grow {S : Hs} {nd : Node} (W : Whs S) (h2 : nd.2.length ≤ 2) (hk : ∀ k ∈ nd.2, k < S.up.length) (hl : S.up.length < 500) :
    Whs (S.grow nd) ∧ (S.grow nd).kc + (S.grow nd).wait.length + 1000 * roots (S.grow nd) < 1001 * (S.grow nd).up.length := by
  have hr := roots_snoc (up := S.up)
  have hw := W.wsum
  have he := W.esum
  unfold roots at hw he
  have hlen : (S.grow nd).up.length = S.up.length + 1 := by simp [Hs.grow]
  refine ⟨⟨W.u.snoc hl, ?_, ?_, ?_, ?_, ?_, ?_, ?_, ?_⟩, ?_⟩
  · rw [hlen]; simp [Hs.grow, W.len]
  · rw [hlen]; omega
  · intro i k hk'
    rw [hlen]
    simp only [Hs.grow] at hk'
    split at hk'
    · cases hk'
    · split at hk'
      · rcases List.mem_append.mp hk' with q | q
        · exact Nat.lt_succ_of_lt (W.par i k q)
        · rw [List.mem_singleton.mp q]; exact Nat.lt_succ_self _
      · exact Nat.lt_succ_of_lt (W.par i k hk')
  · intro k hk'
    rw [hlen]
    exact Nat.lt_succ_of_lt (W.wait k hk')
  · intro q v hv
    rw [hlen]
    exact Nat.lt_succ_of_lt (W.known q v hv)
  · rw [hlen]
    have h1 := rsum_mem (up := S.up) (n := S.up.length) (nd.2.map (root S.up)) (fun i => (S.par i).length)
    have h3 : rsum (S.up ++ [S.up.length]) (fun i => ((S.grow nd).par i).length) S.up.length = rsum S.up (fun c => (S.par c).length + if c ∈ nd.2.map (root S.up) then 1 else 0) S.up.length := by
      refine rsum_snoc (Nat.le_refl _) fun i hi _ => ?_
      simp only [Hs.grow]
      rw [if_neg (Nat.ne_of_lt hi)]
      split <;> simp
    show rsum (S.up ++ [S.up.length]) (fun i => ((S.grow nd).par i).length) (S.up.length + 1) ≤ 2 * (S.up.length + 1)
    rw [rsum, h3, getD_snoc_eq, if_pos rfl]
    have h4 : ((S.grow nd).par S.up.length).length = 0 := by simp [Hs.grow]
    rw [h4]
    have := W.psum
    rw [List.length_map] at h1
    omega
  · rw [hlen]; unfold roots; show S.kc + S.wait.length + 1000 * rsum (S.up ++ [S.up.length]) _ (S.up ++ [S.up.length]).length ≤ _; rw [hr]; omega
  · rw [hlen]; unfold roots; show S.nE + rsum (S.up ++ [S.up.length]) _ (S.up ++ [S.up.length]).length ≤ S.rows.length + _; rw [hr]; omega
  · rw [hlen]; unfold roots; show S.kc + S.wait.length + 1000 * rsum (S.up ++ [S.up.length]) _ (S.up ++ [S.up.length]).length < _; rw [hr]; omega
theorem uni_size (o : Nat) (u : Addr) (up : List Nat) : RCtr w mean mg mb 213 1 40 [.ref u] (fun news reg => UniR w news reg o u up) (fun r => ∃ t, r = .int (up.length : Int) t) := by
  unfold RCtr
  k_fill
  intro dp un gd cn cs a₀ ccd cl outer A₀ base h₀ L m news reg s Q E B F X N T hk hpre hdp hun hret
  refine bc fun z9 => ?_
  obtain ⟨⟨ud, la, ll, lm, t1, t2, t3, ca, cl', cm, vs, as, mv, lens⟩, a⟩ := hpre
  refine z9 ?_; clear z9; try k_unmd
  dsimp only at a
  have a1 := a.a1
  have a2 := a.a2
  have a4 := a.a4
  have a6 := a.a6
  have hlen := a.a16.len
  have hvl : vs.length = up.length := by have := a6.length; simpa [nats] using this
  clear a
  k_dflt ktr_enter
  refine' (let AA := _; let EE := _; let TT : Nat := _; (?_ : wpAny _ AA _ _ EE ⟨_, _, _, TT, _⟩))
  with_reducible rename Fr _ _ _ _ => kF
  refine' (let mm : Str → Option Value := _; (fun (kF : Fr _ _ _ mm) => ?_) kF); try k_unmd
  walk_at "NM"
  walk_at "S"
  refine len_N (by k_asm) a4 hvl (by omega) fun tk1 tk2 => ?_
  walk_at "S"
  exact hret _ _ _ (by k_asm) (by k_asm) ⟨_, rfl⟩
end
section
variable {w : World} {mean : ExcName → Option Value} {mg mb : Str → Option Value}
theorem take_nd {cs : List Nat} {i q : Nat} (h : cs.Nodup) (hq : cs[i]? = some q) : q ∉ cs.take i ∧ ∀ x, x ∈ cs.take (i + 1) ↔ x ∈ cs.take i ∨ x = q := by
  refine ⟨fun hm => ?_, fun x => by rw [take_snoc hq, List.mem_append, List.mem_singleton]⟩
  obtain ⟨j, hj, e⟩ := List.getElem_of_mem hm
  rw [List.length_take] at hj
  rw [List.getElem_take] at e
  have hi : i < cs.length := by
    rcases Nat.lt_or_ge i cs.length with h | h
    · exact h
    · rw [List.getElem?_eq_none h] at hq; cases hq
  have e2 : cs[i] = q := by rw [List.getElem?_eq_getElem hi] at hq; exact Option.some.inj hq
  have := (List.getElem?_inj (i := j) (j := i) (min_r hj) h).mp (by rw [List.getElem?_eq_getElem (min_r hj), List.getElem?_eq_getElem hi, e, e2])
  exact absurd this (Nat.ne_of_lt (min_l hj))
noncomputable def Hs.grow0 (S : Hs) (nd : Node) : Hs := { S with nodes := S.nodes ++ [nd], up := S.up ++ [S.up.length], par := fun i => if i = S.up.length then [] else S.par i }
theorem heap_add (o : Nat) (ho : 15 ≤ o) (x : Addr) (S : Hs) (op : Str) (kids : List Nat) (t : Tok) (ka : Addr) (us : List Value) (c : Nat) (W : Whs S) : Ctr w mean mg mb 298 6 400 [.ref x, .str op t, .ref ka]
   (fun news reg => HeapR w news reg o x S ∧ OpOk op ∧ (ka, tupO us c) ∈ news ∧ IntsAre us (nats kids) ∧ kids.length ≤ 2 ∧ (∀ k ∈ kids, k < S.up.length) ∧ S.up.length < 63 ∧ S.rows.length ≤ 1000000)
   (fun news reg r news' reg' => (∃ t, r = .int (takeI S.nodes (op, kids) : Int) t) ∧ HeapR w news' reg' o x (S.add (op, kids)) ∧ Gr (RS o [1, 2, 3, 4, 5, 6, 7, 8, 9, 10, 11, 12, 13, 14]) reg news reg' news') := by
  unfold Ctr
  k_fill
  intro dp un gd cn cs a₀ ccd cl outer A₀ base h₀ L m news reg s Q E B F X N T hk hpre hdp hun hret
  refine bc fun z9 => ?_
  refine el8 hpre fun hH hop mka hI hk2 hkl hlen hrows => ?_; try clear hpre
  refine z9 ?_; clear z9; try k_unmd
  k_dflt (refine' code_defC ?k1 ?k2 ?k3 ?k4 ?k5 ?kA ?kF ?kK ?k6 ?k7 ?k8 ?k9 ?kB ?kD ?_ ?c2 ?c3 ?c4; (case kA => exact rfl); (case kF => exact rfl); (case kK => assumption); (case k1 => k_asm); (case k2 => k_asm); (case k3 => k_asm); (case k4 => k_asm); (case k5 => k_asm); (case k6 => k_is); (case k7 => k_is); (case k8 => ktr_room); (case k9 => exact BindsTo.of_eq rfl); (case kB => exact rfl); (case kD => decide +kernel); (case c2 => exact rfl); (case c3 => exact rfl); (case c4 => exact rfl); k_whole; intro g' L' h' tk' cells' FG' F' N' Y' B' X' T' l1; k_cells Y'; (try simp only [List.cons_append, List.nil_append] at N'); (try dsimp only); (try k_fold))
  refine' (let AA := _; let EE := _; let QQ := _; let TT : Nat := _; (?_ : wpAny _ AA _ QQ EE ⟨_, _, _, TT, _⟩))
  refine' (let mm : Str → Option Value := _; (fun (F' : Fr _ _ _ mm) => ?_) F'); try k_unmd
  rename_i o1 d1
  refine bc fun z9 => ?_
  obtain ⟨reg1, g1, rc⟩ := Gr.fresh (R := fun _ => False) (reg := reg) (k := 3) (o := o1) (fun p hp => Nat.lt_succ_of_lt (l1 p hp))
  refine z9 ?_; clear z9; try k_unmd
  replace hH := hH.gr g1.toGw id id off_no
  replace d1 : o1.data = .cell (some (.ref x)) := d1
  have mc : (Nat.succ L', o1) ∈ (Nat.succ L', o1) :: news := .head _
  have mka1 := g1.keep _ mka id
  obtain ⟨A, z⟩ := id hH
  have h1 := z.obj.inst
  have h2 := z.obj.dict
  have h3 := z.obj.one
  have hul : us.length = kids.length := by simpa [nats] using hI.length
  refine bc fun z9 => ?_
  refine ex1 z.bank.inst fun BX h9 => ?_; refine el2 h9 fun hb hb2 => ?_; clear h9
  refine z9 ?_; clear z9; try k_unmd
  walk_at "S"
  try k_fold
  k_dflt (refine' Ctr.use (bank_take o ho A.bb S.nodes op kids _ ka us c) ?B ?F ?X ?N ?T ?k ?pre ?d ?u ?_)
  (case B | F | X | N | T => k_asm); (case k => first | exact rfl | assumption); (case d | u => walk_at "ROOM")
  (case pre => exact ⟨z.bank, hop, mka1, hI, hk2, W.len ▸ hkl, by rw [← W.len]; omega⟩)
  intro r2 news2 reg2 h2' tk2 F2 N2 hp9; refine bc fun z9 => ?_
  refine el3 hp9 fun hq1 hB g2 => ?_; try clear hp9
  obtain ⟨tr, er⟩ := hq1
  refine z9 ?_; clear z9; try k_unmd
  try k_sweep
  try dsimp only
  try k_fold
  refine bc fun z9 => ?_
  obtain ⟨n, hn⟩ : ∃ n, n = takeI S.nodes (op, kids) := ⟨_, rfl⟩
  refine z9 ?_; clear z9; try k_unmd
  rw [← hn] at er
  subst er
  replace h1 := g2.inst h1
  replace mka1 := g2.tup mka1
  have rc2 := (g2.regs _ mc).trans rc
  replace mc := (g2.both mc rc (by walk_at "NR")).1
  have gw9 := g2.toGw
  have t9 := gw9.regw h2 h3 (by walk_at "NR"); replace h2 := gw9.at h2 h3 (by walk_at "NR"); replace h3 := t9; clear t9
  clear gw9
  have hU := z.uni.gr g2.toGw (by walk_at "NR") (by walk_at "NA")
  refine bc fun z9 => ?_
  refine ex1 hU.inst fun UX h9 => ?_; refine el2 h9 fun hu hu2 => ?_; clear h9
  refine z9 ?_; clear z9; try k_unmd
  clear hb hb2
  walk_at "S"
  try k_fold
  k_dflt (refine' RCtr.use (uni_size o A.uu S.up) ?B ?F ?X ?N ?T ?k ?pre ?d ?u ?_)
  (case B | F | X | N | T => k_asm); (case k => first | exact rfl | assumption); (case d | u => walk_at "ROOM")
  (case pre => exact hU)
  intro r' h' tk' F' N' hp'; (try k_sweep); (first | (obtain ⟨t', e'⟩ := hp'; subst e') | (have e' := hp'; subst e')); (try dsimp only); (try k_fold)
  cases hidx : idx S.nodes (nkey (op, kids)) with
  | some i =>
    obtain rfl : n = i := by rw [hn]; unfold takeI; rw [hidx]
    have hnl : n < S.up.length := by rw [W.len]; exact idx_lt hidx
    walk_at "S"
    refine hret _ news2 reg2 _ _ (by k_asm) (by k_asm) ⟨⟨_, by unfold takeI; rw [hidx]⟩, ?_, g1.no.trans (g2.up rfl)⟩
    unfold takeN at hB
    unfold Hs.add
    rw [hidx] at hB ⊢
    refine bc fun z9 => ?_
    refine ex1 z.forest fun nf h9 => ?_; refine el2 h9 fun hf1 hf2 => ?_; clear h9
    refine z9 ?_; clear z9; try k_unmd
    exact ⟨A, ⟨h1, h2, h3⟩, hB, z.uni.gr g2.toGw (by walk_at "NR") (by walk_at "NA"), z.edges.gr g2.toGw (by walk_at "NR"), ⟨nf, hf1.gr g2.toGw (by walk_at "NR"), hf2⟩, z.known.gr g2.toGw (by walk_at "NR"), z.above.gr g2.toGw (by walk_at "NR") (by walk_at "NR"), z.wait.gr g2.toGw (by walk_at "NR"), z.rows.gr g2.toGw (by walk_at "NR") (by walk_at "NR")⟩
  | none =>
    obtain rfl : n = S.up.length := by rw [hn]; unfold takeI; rw [hidx]; exact W.len.symm
    unfold takeN at hB
    rw [hidx] at hB
    walk_at "S"
    try k_fold
    k_dflt (refine' Ctr.use (make_ctr o A.uu S.up) ?B ?F ?X ?N ?T ?k ?pre ?d ?u ?_)
    (case B | F | X | N | T => k_asm); (case k => first | exact rfl | assumption); (case d | u => walk_at "ROOM")
    (case pre => exact ⟨hU, by omega⟩)
    intro r3 news3 reg3 h3' tk3 F3 N3 hp9; refine bc fun z9 => ?_
    refine el3 hp9 fun hq2 hU3 g3 => ?_; try clear hp9
    obtain ⟨tm, rfl⟩ := hq2
    refine z9 ?_; clear z9; try k_unmd
    try k_sweep
    try dsimp only
    try k_fold
    have gA : Gr (RS o [1, 2, 3, 4, 5, 6, 7, 8]) reg1 ((Nat.succ L', o1) :: news) reg3 news3 := (g2.up rfl).trans (g3.up rfl)
    replace h1 := g3.inst h1
    replace mka1 := g3.tup mka1
    have rc3 := (g3.regs _ mc).trans rc2
    replace mc := (g3.both mc rc2 (by walk_at "NR")).1
    have gw9 := g3.toGw
    have t9 := gw9.regw h2 h3 (by walk_at "NR"); replace h2 := gw9.at h2 h3 (by walk_at "NR"); replace h3 := t9; clear t9
    clear gw9
    refine bc fun z9 => ?_
    refine ex2 z.above fun oa f h9 => ?_; refine el4 h9 fun a1 a2 a3 a4 => ?_; clear h9
    refine z9 ?_; clear z9; try k_unmd
    have gw9 := gA.toGw
    have t9 := gw9.regw a1 a2 (by walk_at "NR"); replace a1 := gw9.at a1 a2 (by walk_at "NR"); replace a2 := t9; clear t9
    clear gw9
    clear hu hu2 hU
    walk_at "S"
    rename_i D4 h4 F4 N4 l4
    refine bc fun z9 => ?_
    obtain ⟨reg4, g4, r4⟩ := Gr.fresh (R := fun _ => False) (reg := reg3) (k := o + 13) (o := lisO [] 0) l4
    refine z9 ?_; clear z9; try k_unmd
    replace h1 := g4.inst h1
    replace mka1 := g4.keep _ mka1 id
    have rc4 := (g4.regs _ mc).trans rc3
    replace mc := g4.keep _ mc id
    have gw9 := g4.toGw
    have t9 := gw9.regw h2 h3 (by walk_at "NR"); replace h2 := gw9.at h2 h3 (by walk_at "NR"); replace h3 := t9; clear t9
    have t9 := gw9.regw a1 a2 (by walk_at "NR"); replace a1 := gw9.at a1 a2 (by walk_at "NR"); replace a2 := t9; clear t9
    clear gw9
    refine dset_N (r := o + 12) (reg := reg4) (by k_asm) (by k_asm) a1 a2 a3 (by rw [sizeLine_eq]; omega) fun h5 news5 oa5 tk5 F5 N5 g5 m5 d5 => ?_
    k_sweep
    replace h1 := g5.inst h1
    replace mka1 := g5.tup mka1
    have rc5 : reg4 (Nat.succ L') = 3 := rc4
    replace mc := (g5.both mc rc4 (by walk_at "NR")).1
    have gw9 := g5.toGw
    have t9 := gw9.regw h2 h3 (by walk_at "NR"); replace h2 := gw9.at h2 h3 (by walk_at "NR"); replace h3 := t9; clear t9
    clear gw9
    replace a2 := g5.reg' a1 a2
    have m4 := g5.both (.head _) r4 (by walk_at "NR")
    have gB : Gr (RS o [1, 2, 3, 4, 5, 6, 7, 8, 12]) reg1 ((Nat.succ L', o1) :: news) reg4 news5 := (gA.up rfl).trans (g4.no.trans (g5.toGr.rs rfl))
    have d5' : IDict w oa5 (fun x => if x = (S.up.length : Int) then some (.ref D4) else f x) (S.up ++ [S.up.length]).length := d5.mono (by rw [List.length_append, List.length_singleton]; split <;> omega)
    have hl4 : ∀ p ∈ (Nat.succ L', o1) :: news, p.1 < D4 := fun p hp => by
      obtain ⟨q, hq⟩ := gA.here p hp
      exact l4 (p.1, q) hq
    have hab : AbvOk news5 reg4 o (fun x => if x = (S.up.length : Int) then some (.ref D4) else f x) (S.up ++ [S.up.length]) (fun i => if i = S.up.length then [] else S.par i) :=
      a4.snoc gB (by walk_at "NR") (fun i => by simp only [Int.natCast_inj]) m4.1 m4.2 hl4
    refine bc fun z9 => ?_
    refine ex1 z.forest fun nf h9 => ?_; refine el2 h9 fun hf1 hf2 => ?_; clear h9
    refine z9 ?_; clear z9; try k_unmd
    have g35 : Gr (RS o [12]) reg3 news3 reg4 news5 := g4.no.trans (g5.toGr.rs rfl)
    have hS3 : HeapR w news5 reg4 o x (S.grow0 (op, kids)) :=
      ⟨A, ⟨h1, h2, h3⟩, (hB.gr g3.toGw (by walk_at "NR") (by walk_at "NR") (by walk_at "NA")).gr g35.toGw (by walk_at "NR") (by walk_at "NR") (by walk_at "NA"), hU3.gr g35.toGw (by walk_at "NR") (by walk_at "NA"), z.edges.gr gB.toGw (by walk_at "NR"), ⟨nf, hf1.gr gB.toGw (by walk_at "NR"), by
        have := roots_snoc (up := S.up)
        unfold roots Hs.grow0 at *
        dsimp only
        rw [this, List.length_append, List.length_singleton]
        omega⟩, z.known.gr gB.toGw (by walk_at "NR"), ⟨oa5, _, m5, a2, d5', hab⟩, z.wait.gr gB.toGw (by walk_at "NR"), z.rows.gr gB.toGw (by walk_at "NR") (by walk_at "NR")⟩
    have hcl : ∀ k ∈ kids, k < (S.up ++ [S.up.length]).length := fun k hk => by rw [List.length_append]; exact Nat.lt_of_lt_of_le (hkl k hk) (Nat.le_add_right _ _)
    walk_at "S"
    refine' comp_tup (vs := us) (c := c) (reg := reg4) (fun ys news₁ reg₁ => Gr (fun _ => False) reg4 news5 reg₁ news₁ ∧ IntsAre ys (nats ((kids.take ys.length).map (root (S.up ++ [S.up.length]))))) ?hh ?F ?N ?J ?hat ?mono ?n 3 ?c ?k ?x ?turn ?done
    (case hh => rfl); (case F => k_asm); (case N => k_asm)
    (case J => exact ⟨Gr.refl, .nil⟩)
    (case hat => exact fun ys news reg h => h.1.keep _ mka1 id)
    (case mono => exact fun b ys news₁ reg₁ news' reg' hb h _ l => ⟨h.1.lo hb l, h.2⟩)
    (case n => rw [sizeLine_eq]; omega)
    (case c => decide); (case k => rfl); (case x => rfl)
    case turn =>
      intro ys v C oC mC news₁ reg₁ h tk E' hv hp9 hC rC hns hmv F1 N1
      obtain ⟨g, hy⟩ := hp9
      replace F1 : Fr g' L' h _ := F1
      replace N1 : News g' L' h news₁ := N1
      have c1 := g.inst h1
      have c2 := g.at h2 h3 id
      have mc1 := g.keep _ mc id
      refine bc fun z9 => ?_
      refine ex2 (ints_at hI hv) fun k t' h9 => ?_; refine el2 h9 fun hq3 hk' => ?_; clear h9
      obtain rfl := hq3
      refine z9 ?_; clear z9; try k_unmd
      have hH1 := hS3.gr g.toGw id id off_no
      walk_at "S"
      try k_fold
      k_dflt (refine' RCtr.use (heap_find o x (S.grow0 (op, kids)) k _) ?B ?F ?X ?N ?T ?k ?pre ?d ?u ?_)
      (case B | F | X | N | T => k_asm); (case k => first | exact rfl | assumption); (case d | u => walk_at "ROOM")
      (case pre => exact ⟨hH1, hcl k (List.mem_of_getElem? hk')⟩)
      intro r' h' tk' F' N' hp'; (try k_sweep); (first | (obtain ⟨t', e'⟩ := hp'; subst e') | (have e' := hp'; subst e')); (try dsimp only); (try k_fold)
      walk_at "S"
      refine EltEnd.mk (news₂ := news₁) (reg₂ := reg₁) (fun _ => False) (by k_asm) (by k_asm) (id) (Gr.refl) ⟨g, ?_⟩
      rw [List.length_append, List.length_singleton, take_snoc hk', List.map_append]
      exact ints_snoc hy
    case done =>
      intro ys D c₁ news₁ reg₁ h tk hl hp9 hD rD ltD F1 N1
      obtain ⟨g, hy⟩ := hp9
      replace F1 : Fr g' L' h _ := F1
      replace N1 : News g' L' h news₁ := N1
      rw [hl, List.take_of_length_le (by omega)] at hy
      have hroot : ∀ k ∈ kids, root (S.up ++ [S.up.length]) k < S.up.length ∧ root (S.up ++ [S.up.length]) k = root S.up k := fun k hk => by
        have h1 := root_snoc W.u (x := S.up.length) (hkl k hk)
        exact ⟨by rw [h1]; exact root_lt (hkl k hk), h1⟩
      walk_at "S"
      refine set_N rfl (by k_asm) (by k_asm) hD hy (by simpa using hk2) (fun k hk => by
        refine bc fun z9 => ?_
        refine ex1 (List.mem_map.mp hk) fun k' h9 => ?_; refine el2 h9 fun hk' hq4 => ?_; clear h9
        obtain rfl := hq4
        refine z9 ?_; clear z9; try k_unmd
        have := (hroot k' hk').1
        omega) fun S6 h6 tk6 o6 F6 N6 l6 hS6 => ?_
      try k_sweep
      walk_at "S"
      refine sortset_N rfl (by k_asm) (by k_asm) (.head _) hS6 fun D7 h7 tk7 vs7 ns7 c7 F7 N7 l7 hI7 hp7 _ => ?_
      try k_sweep
      refine bc fun z9 => ?_
      refine ex1 (dist_nats hp7) fun cs h9 => ?_; refine el3 h9 fun hq5 hnd hmem => ?_; clear h9
      obtain rfl := hq5
      obtain ⟨reg7, g7, r7⟩ := Gr.fresh (R := fun _ => False) (reg := reg₁) (k := 3) (o := lisO vs7 c7) l7
      refine z9 ?_; clear z9; try k_unmd
      have hvl : vs7.length = cs.length := by simpa [nats] using hI7.length
      have hcs : ∀ c ∈ cs, c < S.up.length ∧ (S.up ++ [S.up.length]).getD c 0 = c := fun c hc => by
        refine bc fun z9 => ?_
        refine ex1 (List.mem_map.mp ((hmem c).mp hc)) fun k h9 => ?_; refine el2 h9 fun hk hq6 => ?_; clear h9
        obtain rfl := hq6
        refine z9 ?_; clear z9; try k_unmd
        exact ⟨(hroot k hk).1, root_root (W.u.snoc (by omega)) k⟩
      have gk : Gr (fun _ => False) reg4 news5 reg7 ((D7, lisO vs7 c7) :: (S6, o6) :: news₁) := g.trans (Gr.cons.trans g7)
      replace h1 := gk.inst h1
      have rc7 := (gk.regs _ mc).trans rc4
      replace mc := gk.keep _ mc id
      replace mka1 := gk.keep _ mka1 id
      replace m5 := gk.both m5 a2 id
      have gw9 := gk.toGw
      have t9 := gw9.regw h2 h3 (by walk_at "NR"); replace h2 := gw9.at h2 h3 (by walk_at "NR"); replace h3 := t9; clear t9
      clear gw9
      replace hab := hab.gr gk.toGw id
      walk_at "S"
      refine' iter_list_x (vs := vs7) (c := c7) (reg := reg7) (fun i news₂ reg₂ => Gr (RS o [13]) reg7 ((D7, lisO vs7 c7) :: (S6, o6) :: news₁) reg₂ news₂ ∧ AbvOk news₂ reg₂ o (fun x => if x = (S.up.length : Int) then some (.ref D4) else f x) (S.up ++ [S.up.length])
        (fun q => if q ∈ cs.take i then (if q = S.up.length then [] else S.par q) ++ [S.up.length] else if q = S.up.length then [] else S.par q)) ?hh ?F ?N ?J ?hx ?hp ?hat ?mono ?turn ?done ?hE
      (case hh => rfl); (case F => k_asm); (case N => k_asm); (case hx => rfl); (case hp => rfl)
      (case J => exact ⟨Gr.refl, by simpa using hab⟩)
      (case hat => exact fun i news reg h => h.1.at (.head _) r7 (by walk_at "NR"))
      (case mono => exact fun b i news₁ reg₁ news' reg' hb h gw l => ⟨h.1.lo hb l, h.2.gr gw (by walk_at "NR")⟩)
      (case hE => passes_own)
      case turn =>
        intro i v news₂ reg₂ h tk hv hp9 F8 N8
        obtain ⟨g8, hab8⟩ := hp9
        refine' (let mm : Str → Option Value := _; (fun (F8 : Fr _ _ _ mm) => ?_) F8); try k_unmd
        refine bc fun z9 => ?_
        refine ex2 (ints_at hI7 hv) fun q t' h9 => ?_; refine el2 h9 fun hq7 hq => ?_; clear h9
        obtain rfl := hq7
        obtain ⟨hq1, hq2⟩ := hcs q (List.mem_of_getElem? hq)
        refine z9 ?_; clear z9; try k_unmd
        have hq3 : q < (S.up ++ [S.up.length]).length := by rw [List.length_append]; omega
        have c1 := g8.inst h1
        have c2 := g8.at h2 h3 (by walk_at "NR")
        have mc1 := g8.at mc rc7 (by walk_at "NR")
        have c5 := g8.at m5.1 m5.2 (by walk_at "NR")
        refine bc fun z9 => ?_
        refine ex3 (hab8.at_ q hq3 hq2) fun aq cq uq h9 => ?_; refine el4 h9 fun p1 p2 p3 p4 => ?_; clear h9
        refine z9 ?_; clear z9; try k_unmd
        walk_at "S"
        refine' dget_N ?N c5 d5' p1 ?_ ?hs
        (case N => k_asm); (case hs => with_unfolding_all rfl)
        walk_at "S"
        obtain ⟨hnt, hts⟩ := take_nd hnd hq
        have hqn : ¬ q = S.up.length := by omega
        simp only [if_neg hnt, if_neg hqn] at p4
        have hpl : uq.length ≤ 1000 := by
          have h1 := rsum_le (up := S.up) (f := fun i => (S.par i).length) hq1 (by rw [getD_snoc_lt hq1] at hq2; exact hq2)
          have h2 := W.psum
          have h3 : uq.length = (S.par q).length := by simpa [nats] using p4.length
          omega
        refine append_N (r := o + 13) (reg := reg₂) (by k_asm) (by k_asm) p2 p3 (by rw [sizeLine_eq]; exact Nat.le_trans hpl (by decide)) fun h9 news9 F9 N9 g9 m9 => ?_
        k_sweep
        walk_at "S"
        have hab9 := hab8.app g9 hq3 hq2 p1 m9 p3 (n := S.up.length) (by simp only [if_neg hnt, if_neg hqn]; exact ints_snoc p4)
        refine TurnEnd.mk (news₂ := news9) (reg₂ := reg₂) (RS o [13]) (by k_asm) (by k_asm) (by walk_at "NR") (g9.toGr.rs rfl) ⟨⟨_, rfl⟩, g8.trans (g9.toGr.rs rfl), ?_⟩
        refine (congrArg (AbvOk news9 reg₂ o _ _) (funext fun y => ?_)).mp hab9
        by_cases e : y = q
        · subst e
          rw [if_pos rfl, if_neg hnt, if_neg hqn, if_pos ((hts y).mpr (.inr rfl))]
        · rw [if_neg e]
          by_cases e2 : y ∈ cs.take i
          · rw [if_pos e2, if_pos ((hts y).mpr (.inl e2))]
          · rw [if_neg e2, if_neg fun h => ((hts y).mp h).elim e2 e]
      case done =>
        intro kv news₂ reg₂ h tk hp9 F8 N8
        obtain ⟨g8, hab8⟩ := hp9
        refine' (let mm : Str → Option Value := _; (fun (F8 : Fr _ _ _ mm) => ?_) F8); try k_unmd
        rw [hvl, List.take_length] at hab8
        replace h1 := g8.inst h1
        replace mc := g8.at mc rc7 (by walk_at "NR")
        replace m5 := g8.both m5.1 m5.2 (by walk_at "NR")
        have gw9 := g8.toGw
        have t9 := gw9.regw h2 h3 (by walk_at "NR"); replace h2 := gw9.at h2 h3 (by walk_at "NR"); replace h3 := t9; clear t9
        clear gw9
        have gC : Gr (RS o [1, 2, 3, 4, 5, 6, 7, 8, 12, 13]) reg1 ((Nat.succ L', o1) :: news) reg₂ news₂ := (gB.up rfl).trans (gk.no.trans (g8.up rfl))
        have gD : Gr (RS o [13]) reg4 news5 reg₂ news₂ := gk.no.trans g8
        have hpar : (S.grow (op, kids)).par = fun q => if q ∈ cs then (if q = S.up.length then [] else S.par q) ++ [S.up.length] else if q = S.up.length then [] else S.par q := by
          funext y
          have hy : y ∈ cs ↔ y ∈ kids.map (root S.up) := by
            rw [hmem, List.mem_map, List.mem_map]
            exact ⟨fun ⟨k, hk, e⟩ => ⟨k, hk, by rw [← (hroot k hk).2]; exact e⟩, fun ⟨k, hk, e⟩ => ⟨k, hk, by rw [(hroot k hk).2]; exact e⟩⟩
          simp only [Hs.grow]
          by_cases e : y = S.up.length
          · have hn : y ∉ cs := fun h => by have := (hcs y h).1; omega
            rw [if_pos e, if_neg hn, if_pos e]
          · rw [if_neg e]
            by_cases e2 : y ∈ cs
            · rw [if_pos e2, if_pos (hy.mp e2), if_neg e]
            · rw [if_neg e2, if_neg (fun h => e2 (hy.mpr h)), if_neg e]
        rw [← hpar] at hab8
        have hHg : HeapR w news₂ reg₂ o x (S.grow (op, kids)) :=
          ⟨A, ⟨h1, h2, h3⟩, ((hB.gr g3.toGw (by walk_at "NR") (by walk_at "NR") (by walk_at "NA")).gr g35.toGw (by walk_at "NR") (by walk_at "NR") (by walk_at "NA")).gr gD.toGw (by walk_at "NR") (by walk_at "NR") (by walk_at "NA"), (hU3.gr g35.toGw (by walk_at "NR") (by walk_at "NA")).gr gD.toGw (by walk_at "NR") (by walk_at "NA"), z.edges.gr gC.toGw (by walk_at "NR"), ⟨nf, hf1.gr gC.toGw (by walk_at "NR"), by
            have := roots_snoc (up := S.up)
            unfold roots Hs.grow at *
            dsimp only
            rw [this, List.length_append, List.length_singleton]
            omega⟩, z.known.gr gC.toGw (by walk_at "NR"), ⟨oa5, _, m5.1, m5.2, d5', hab8⟩, z.wait.gr gC.toGw (by walk_at "NR"), z.rows.gr gC.toGw (by walk_at "NR") (by walk_at "NR")⟩
        refine bc fun z9 => ?_
        obtain ⟨Wg, hsl⟩ := W.grow (nd := (op, kids)) hk2 hkl (by omega)
        refine z9 ?_; clear z9; try k_unmd
        walk_at "S"
        try k_fold
        k_dflt (refine' Ctr.use (heap_look o x (S.grow (op, kids)) S.up.length _ Wg) ?B ?F ?X ?N ?T ?k ?pre ?d ?u ?_)
        (case B | F | X | N | T => k_asm); (case k => first | exact rfl | assumption); (case d | u => walk_at "ROOM")
        (case pre => exact ⟨hHg, by simp [Hs.grow], hrows⟩)
        intro r10 news10 reg10 h10' tk10 F10 N10 hp9; refine bc fun z9 => ?_
        refine el3 hp9 fun hq8 hL g10 => ?_; try clear hp9
        obtain rfl := hq8
        refine z9 ?_; clear z9; try k_unmd
        try k_sweep
        try dsimp only
        try k_fold
        walk_at "S"
        refine hret _ news10 reg10 _ _ (by k_asm) (by k_asm) ⟨⟨_, by rw [← hn]⟩, ?_, g1.no.trans ((gC.up rfl).trans (g10.up rfl))⟩
        unfold Hs.add
        rw [hidx]
        exact hL
end
section
variable {w : World} {mean : ExcName → Option Value} {mg mb : Str → Option Value}
theorem heap_size (o : Nat) (x : Addr) (S : Hs) (n : Nat) (hn : S.nodes.length = n) : RCtr w mean mg mb 288 2 80 [.ref x] (fun news reg => HeapR w news reg o x S) (fun r => ∃ t, r = .int (n : Int) t) := by
  subst hn
  unfold RCtr
  k_fill
  intro dp un gd cn cs a₀ ccd cl outer A₀ base h₀ L m news reg s Q E B F X N T hk hpre hdp hun hret
  obtain ⟨A, a⟩ := hpre
  have h1 := a.obj.inst
  have h2 := a.obj.dict
  have h5 := a.bank
  refine bc fun z9 => ?_
  refine ex1 h5.inst fun BX h9 => ?_; refine el2 h9 fun hb hb2 => ?_; clear h9
  refine z9 ?_; clear z9; try k_unmd
  clear a
  k_dflt ktr_enter
  refine' (let AA := _; let EE := _; let TT : Nat := _; (?_ : wpAny _ AA _ _ EE ⟨_, _, _, TT, _⟩))
  with_reducible rename Fr _ _ _ _ => kF
  refine' (let mm : Str → Option Value := _; (fun (kF : Fr _ _ _ mm) => ?_) kF); try k_unmd
  walk_at "NM"
  walk_at "S"
  try k_fold
  k_dflt (refine' RCtr.use (bank_size o A.bb S.nodes) ?B ?F ?X ?N ?T ?k ?pre ?d ?u ?_)
  (case B | F | X | N | T => k_asm); (case k => first | exact rfl | assumption); (case d | u => walk_at "ROOM")
  (case pre => exact h5)
  intro r' h' tk' F' N' hp'; (try k_sweep); (first | (obtain ⟨t', e'⟩ := hp'; subst e') | (have e' := hp'; subst e')); (try dsimp only); (try k_fold)
  walk_at "S"
  exact hret _ _ _ (by k_asm) (by k_asm) ⟨_, rfl⟩
theorem Whs.add {S : Hs} {nd : Node} (W : Whs S) (h2 : nd.2.length ≤ 2) (hk : ∀ k ∈ nd.2, k < S.up.length) (hl : S.up.length < 500) :
    Whs (S.add nd) ∧ (S.add nd).rows = S.rows ∧ (S.add nd).nodes = takeN S.nodes nd := by
  unfold Hs.add takeN
  cases idx S.nodes (nkey nd) with
  | some i => exact ⟨W, rfl, rfl⟩
  | none =>
    obtain ⟨Wg, hs⟩ := W.grow h2 hk hl
    obtain ⟨W1, h1, h2, _⟩ := Wg.look (n := S.up.length) (by simp [Hs.grow]) hs
    exact ⟨W1, h1, h2⟩
theorem HeapR.rows {news : Led} {reg : Reg} {o : Nat} {x : Addr} {S : Hs} {r : List Row} {A : HI} (z : HeapOk w news reg o x S A) (hr : DatL news reg (o + 15) A.lr (r.map Row.dat)) : HeapR w news reg o x { S with rows := r } :=
  ⟨A, z.obj, z.bank, z.uni, z.edges, z.forest, z.known, z.above, z.wait, hr⟩
noncomputable def Hs.wadd (S : Hs) (nd : Node) : Hs := match idx S.nodes (nkey nd) with | some _ => S | none => { S.add nd with rows := S.rows ++ [.add nd.1 nd.2] }
theorem w_add (o : Nat) (ho : 15 ≤ o) (x : Addr) (S : Hs) (op : Str) (kids : List Nat) (t : Tok) (ka : Addr) (us : List Value) (c : Nat) (W : Whs S) : Ctr w mean mg mb 430 8 480 [.ref x, .str op t, .ref ka]
   (fun news reg => HeapR w news reg o x S ∧ OpOk op ∧ (ka, tupO us c) ∈ news ∧ IntsAre us (nats kids) ∧ kids.length ≤ 2 ∧ (∀ k ∈ kids, k < S.up.length) ∧ S.up.length < 63 ∧ S.rows.length ≤ 1000000)
   (fun news reg r news' reg' => (∃ t, r = .int (takeI S.nodes (op, kids) : Int) t) ∧ HeapR w news' reg' o x (S.wadd (op, kids)) ∧ Gr (RS o allH) reg news reg' news') := by
  unfold Ctr
  k_fill
  intro dp un gd cn cs a₀ ccd cl outer A₀ base h₀ L m news reg s Q E B F X N T hk hpre hdp hun hret
  refine bc fun z9 => ?_
  refine el8 hpre fun hH hop mka hI hk2 hkl hlen hrows => ?_; try clear hpre
  obtain ⟨A, z⟩ := id hH
  refine z9 ?_; clear z9; try k_unmd
  have h1 := z.obj.inst
  have h2 := z.obj.dict
  have h3 := z.obj.one
  k_dflt (refine' ks_code_super ?k1 ?k2 ?k3 ?k4 ?k5 ?kA ?kF ?kK ?k6 ?k7 ?k8 ?k9 ?kB ?_ ?c1 ?c2 ?c3 ?c4; (case kA => exact rfl); (case kF => exact rfl); (case kK => assumption); (case k1 => k_asm); (case k2 => k_asm); (case k3 => k_asm); (case k4 => k_asm); (case k5 => k_asm); (case k6 => k_is); (case k7 => k_is); (case k8 => ktr_room); (case k9 => exact BindsTo.of_eq rfl); (case kB => exact locs rfl); (case c1 => decide); (case c2 => exact rfl); (case c3 => exact rfl); (case c4 => exact rfl); intro g' L' h' FG' F' N' B' X' T' l1; (try k_lt l1); (try dsimp only); (try k_lift B'))
  walk_at "S"
  try k_fold
  k_dflt (refine' RCtr.use (heap_size o x S S.nodes.length rfl) ?B ?F ?X ?N ?T ?k ?pre ?d ?u ?_)
  (case B | F | X | N | T => k_asm); (case k => first | exact rfl | assumption); (case d | u => walk_at "ROOM")
  (case pre => exact hH)
  intro r' h' tk' F' N' hp'; (try k_sweep); (first | (obtain ⟨t', e'⟩ := hp'; subst e') | (have e' := hp'; subst e')); (try dsimp only); (try k_fold)
  walk1
  try k_unmd
  (try k_unfold)
  try dsimp only
  walk1
  refine ks_wpAt_Assign_Name ?_
  refine ks_wpAt_MethodCall ?_
  k_dflt (refine' ks_node ?s1 ?s2 ?s3 ?s4 ?s5 ?s6 ?s7 ?s8 ?s9 ?s10 ?s11 ?s12 ?s13 ?s14 ?s15 ?s16 ?s17 ?s18 ?s19 ?s20 ?s21 ?s22 ?_; (case s1 => k_asm); (case s2 => k_asm); (case s3 => k_asm); (case s4 => k_asm); (case s5 => k_is); (case s6 => rfl); (case s7 => rfl); (case s8 => k_inst); (case s9 => k_is); (case s10 => rfl); (case s11 => first | rfl | decide +kernel); (case s12 => k_is); (case s13 => k_is); (case s14 => k_is); (case s15 => k_is); (case s16 => decide); (case s17 => rfl); (case s18 => rfl); (case s19 => rfl); (case s20 => rfl); (case s21 => decide +kernel); (case s22 => first | boot_by_name | rfl | kernel_rfl); intro so' h' F' N' l1; (try k_lt l1))
  walk_at "S"
  try k_fold
  k_dflt (refine' Ctr.useM (heap_add o ho x S op kids _ ka us c W) ?q ?B ?F ?X ?N ?T ?k ?pre ?d ?u ?_)
  (case B | F | X | N | T => k_asm); (case k => first | exact rfl | assumption); (case d | u => walk_at "ROOM")
  (case q => k_mem)
  (case pre => exact ⟨hH.gr (Gr.sub (R := fun _ => False) (by intro p hp; repeat (first | exact hp | refine List.mem_cons_of_mem _ ?_))).toGw id id off_no, hop, by k_mem, hI, hk2, hkl, hlen, hrows⟩)
  intro r2 news2 reg2 h2' tk2 F2 N2 hp9; refine bc fun z9 => ?_
  refine el3 hp9 fun hq1 hH2 g2 => ?_; try clear hp9
  obtain ⟨tr, er⟩ := hq1
  refine z9 ?_; clear z9; try k_unmd
  try k_sweep
  try dsimp only
  try k_fold
  refine bc fun z9 => ?_
  obtain ⟨n, hn⟩ : ∃ n, n = takeI S.nodes (op, kids) := ⟨_, rfl⟩
  refine z9 ?_; clear z9; try k_unmd
  rw [← hn] at er
  subst er
  refine bc fun z9 => ?_
  obtain ⟨W2, q1, q2⟩ := W.add (nd := (op, kids)) hk2 hkl (by omega)
  refine z9 ?_; clear z9; try k_unmd
  have gA : Gr (RS o [1, 2, 3, 4, 5, 6, 7, 8, 9, 10, 11, 12, 13, 14]) reg news reg2 news2 := (Gr.sub (R := fun _ => False) (by intro p hp; repeat (first | exact hp | refine List.mem_cons_of_mem _ ?_))).no.trans g2
  obtain ⟨A2, z2⟩ := id hH2
  have i1 := z2.obj.inst
  have i2 := z2.obj.dict
  have i3 := z2.obj.one
  refine bc fun z9 => ?_
  refine ex2 z2.rows fun vr cr h9 => ?_; refine el3 h9 fun e1 e2 e3 => ?_; clear h9
  refine z9 ?_; clear z9; try k_unmd
  have mka2 := gA.tup mka
  replace F2 := F2
  clear h1 h2 h3
  cases hidx : idx S.nodes (nkey (op, kids)) with
  | some i =>
    have e : takeN S.nodes (op, kids) = S.nodes := by unfold takeN; rw [hidx]
    walk_at "S"
    try k_fold
    k_dflt (refine' RCtr.use (heap_size o x (S.add (op, kids)) S.nodes.length (by rw [q2, e])) ?B ?F ?X ?N ?T ?k ?pre ?d ?u ?_)
    (case B | F | X | N | T => k_asm); (case k => first | exact rfl | assumption); (case d | u => walk_at "ROOM")
    (case pre => exact hH2)
    intro r' h' tk' F' N' hp'; (try k_sweep); (first | (obtain ⟨t', e'⟩ := hp'; subst e') | (have e' := hp'; subst e')); (try dsimp only); (try k_fold)
    walk_at "S"
    refine hret _ news2 reg2 _ _ (by k_asm) (by k_asm) ⟨⟨_, by rw [← hn]⟩, ?_, gA.up rfl⟩
    unfold Hs.wadd
    rw [hidx]
    unfold Hs.add at hH2
    rw [hidx] at hH2
    exact hH2
  | none =>
    have e : takeN S.nodes (op, kids) = S.nodes ++ [(op, kids)] := by unfold takeN; rw [hidx]
    walk_at "S"
    try k_fold
    k_dflt (refine' RCtr.use (heap_size o x (S.add (op, kids)) (S.nodes.length + 1) (by rw [q2, e]; simp)) ?B ?F ?X ?N ?T ?k ?pre ?d ?u ?_)
    (case B | F | X | N | T => k_asm); (case k => first | exact rfl | assumption); (case d | u => walk_at "ROOM")
    (case pre => exact hH2)
    intro r' h' tk' F' N' hp'; (try k_sweep); (first | (obtain ⟨t', e'⟩ := hp'; subst e') | (have e' := hp'; subst e')); (try dsimp only); (try k_fold)
    walk_at "S"
    refine call_tuple_same (items := us.toArray) ⟨_, News.get (by k_asm) mka2, rfl, c, rfl⟩ ?_
    walk_at "S"
    rename_i T9 h9 F9 N9 l9
    have hvr : vr.length = S.rows.length := by have := e3.length; rw [q1] at this; simpa using this
    refine append_N (r := o + 15) (reg := reg2) (by k_asm) (by k_asm) (.tail _ e1) e2 (by rw [sizeLine_eq, hvr]; exact Nat.le_trans hrows (by decide)) fun h10 news10 F10 N10 g10 m10 => ?_
    k_sweep
    walk_at "S"
    have gB : Gr (fun k => k = o + 15) reg2 news2 reg2 news10 := Gr.cons.trans g10.toGr
    refine hret _ news10 reg2 _ _ (by k_asm) (by k_asm) ⟨⟨_, by rw [← hn]⟩, ?_, (gA.up rfl).trans (gB.rs rfl)⟩
    unfold Hs.wadd
    rw [hidx]
    have e2' := g10.reg' (.tail _ e1) e2
    have hT := g10.tup (.head _)
    have hka := gB.tup mka2
    refine bc fun z9 => ?_
    refine ex1 z2.forest fun nf h9 => ?_; refine el2 h9 fun hf1 hf2 => ?_; clear h9
    refine z9 ?_; clear z9; try k_unmd
    refine ⟨A2, z2.obj.gr gB.toGw (by walk_at "NR"), z2.bank.gr gB.toGw (by walk_at "NR") (by walk_at "NR") (by walk_at "NA"), z2.uni.gr gB.toGw (by walk_at "NR") (by walk_at "NA"), z2.edges.gr gB.toGw (by walk_at "NR"), ⟨nf, hf1.gr gB.toGw (by walk_at "NR"), hf2⟩, z2.known.gr gB.toGw (by walk_at "NR"), z2.above.gr gB.toGw (by walk_at "NR") (by walk_at "NR"), z2.wait.gr gB.toGw (by walk_at "NR"), ⟨_, _, m10, e2', ?_⟩⟩
    dsimp only
    rw [List.map_append]
    rw [q1] at e3
    exact (e3.gr gB.toGw (by walk_at "NR")).append (.cons (.tuple hT (.cons (.str _ _) (.cons (.str _ _) (.cons (.tuple hka (by rw [nats_dat]; exact DTs.ints hI)) .nil)))) .nil)
end
section
variable {w : World} {mean : ExcName → Option Value} {mg mb : Str → Option Value}
inductive Tr where
  | leaf (op : Str)
  | one (op : Str) (t : Tr)
  | two (op : Str) (t u : Tr)
noncomputable def Tr.op : Tr → Str
  | .leaf op => op
  | .one op _ => op
  | .two op _ _ => op
noncomputable def Tr.kids : Tr → List Tr
  | .leaf _ => []
  | .one _ t => [t]
  | .two _ t u => [t, u]
noncomputable def Tr.dat : Tr → PyData
  | .leaf op => .tuple [.str op]
  | .one op t => .tuple [.str op, t.dat]
  | .two op t u => .tuple [.str op, t.dat, u.dat]
noncomputable def Tr.h : Tr → Nat
  | .leaf _ => 1
  | .one _ t => t.h + 1
  | .two _ t u => max t.h u.h + 1
noncomputable def Tr.size : Tr → Nat
  | .leaf _ => 1
  | .one _ t => t.size + 1
  | .two _ t u => t.size + u.size + 1
noncomputable def Tr.ok : Tr → Prop
  | .leaf op => OpOk op
  | .one op t => OpOk op ∧ t.ok
  | .two op t u => OpOk op ∧ t.ok ∧ u.ok
noncomputable def Tr.put : Tr → Hs → Hs × Nat
  | .leaf op, S => (S.wadd (op, []), takeI S.nodes (op, []))
  | .one op t, S => let (S1, n1) := t.put S; (S1.wadd (op, [n1]), takeI S1.nodes (op, [n1]))
  | .two op t u, S => let (S1, n1) := t.put S; let (S2, n2) := u.put S1; (S2.wadd (op, [n1, n2]), takeI S2.nodes (op, [n1, n2]))
noncomputable def putTs : List Tr → Hs → Hs × List Nat
  | [], S => (S, [])
  | t :: l, S => let (S1, n) := t.put S; let (S2, ns) := putTs l S1; (S2, n :: ns)
theorem Tr.put_eq (t : Tr) (S : Hs) : t.put S = ((putTs t.kids S).1.wadd (t.op, (putTs t.kids S).2), takeI (putTs t.kids S).1.nodes (t.op, (putTs t.kids S).2)) := by
  cases t <;> rfl
theorem Tr.dat_eq (t : Tr) : t.dat = .tuple (.str t.op :: t.kids.map Tr.dat) := by
  cases t <;> rfl
theorem putTs_snoc (l : List Tr) (t : Tr) (S : Hs) : putTs (l ++ [t]) S = ((t.put (putTs l S).1).1, (putTs l S).2 ++ [(t.put (putTs l S).1).2]) := by
  induction l generalizing S with
  | nil => rfl
  | cons a l ih => simp only [List.cons_append, putTs, ih]
theorem takeI_lt {nodes : List Node} {nd : Node} : takeI nodes nd < (takeN nodes nd).length := by
  unfold takeI takeN
  cases h : idx nodes (nkey nd) with
  | some i => exact idx_lt h
  | none => simp
theorem takeN_len {nodes : List Node} {nd : Node} : nodes.length ≤ (takeN nodes nd).length ∧ (takeN nodes nd).length ≤ nodes.length + 1 := by
  unfold takeN
  split <;> simp
structure Grown (S S' : Hs) (k : Nat) : Prop where
  w : Whs S'
  up1 : S.up.length ≤ S'.up.length
  up2 : S'.up.length ≤ S.up.length + k
  rows : S'.rows.length ≤ S.rows.length + k
theorem Whs.rows_more {S : Hs} (W : Whs S) {r : List Row} (h : S.rows.length ≤ r.length) : Whs { S with rows := r } := ⟨W.u, W.len, W.n, W.par, W.wait, W.known, W.psum, W.wsum, Nat.le_trans W.esum (Nat.add_le_add_right h _)⟩
theorem Whs.wadd {S : Hs} {nd : Node} (W : Whs S) (h2 : nd.2.length ≤ 2) (hk : ∀ k ∈ nd.2, k < S.up.length) (hl : S.up.length < 500) :
    Grown S (S.wadd nd) 1 ∧ takeI S.nodes nd < (S.wadd nd).up.length ∧ (S.wadd nd).nodes = takeN S.nodes nd := by
  obtain ⟨W1, q1, q2⟩ := W.add h2 hk hl
  have hl1 : (S.add nd).up.length = (takeN S.nodes nd).length := by rw [W1.len, q2]
  have ht := takeN_len (nodes := S.nodes) (nd := nd)
  have hi := takeI_lt (nodes := S.nodes) (nd := nd)
  rw [← W.len] at ht
  unfold Hs.wadd
  cases h : idx S.nodes (nkey nd) with
  | some i =>
    have e : takeN S.nodes nd = S.nodes := by unfold takeN; rw [h]
    rw [e, ← W.len] at hi
    exact ⟨⟨W, Nat.le_refl _, Nat.le_succ _, Nat.le_succ _⟩, hi, e.symm⟩
  | none =>
    refine ⟨⟨W1.rows_more (by rw [q1]; simp), ?_, ?_, by simp⟩, ?_, q2⟩
    · show S.up.length ≤ (S.add nd).up.length; omega
    · show (S.add nd).up.length ≤ _; omega
    · show _ < (S.add nd).up.length; omega
theorem Grown.trans {S S' S'' : Hs} {k j : Nat} (a : Grown S S' k) (b : Grown S' S'' j) : Grown S S'' (k + j) := ⟨b.w, Nat.le_trans a.up1 b.up1, by have := a.up2; have := b.up2; omega, by have := a.rows; have := b.rows; omega⟩
theorem Tr.put_grown : ∀ (t : Tr) {S : Hs}, Whs S → S.up.length + t.size < 500 → Grown S (t.put S).1 t.size ∧ (t.put S).2 < (t.put S).1.up.length
  | .leaf op, S, W, h => by
    obtain ⟨g, h1, _⟩ := W.wadd (nd := (op, [])) (by simp) (by simp) (by simp [Tr.size] at h; omega)
    exact ⟨g, h1⟩
  | .one op t, S, W, h => by
    simp only [Tr.size] at h
    obtain ⟨g1, h1⟩ := t.put_grown W (by omega)
    have := g1.up2
    obtain ⟨g, h2, _⟩ := g1.w.wadd (nd := (op, [(t.put S).2])) (by simp) (by simpa using h1) (by omega)
    exact ⟨g1.trans g, h2⟩
  | .two op t u, S, W, h => by
    simp only [Tr.size] at h
    obtain ⟨g1, h1⟩ := t.put_grown W (by omega)
    have := g1.up2
    obtain ⟨g2, h2⟩ := u.put_grown g1.w (by omega)
    have := g2.up2
    have := g2.up1
    obtain ⟨g, h3, _⟩ := g2.w.wadd (nd := (op, [(t.put S).2, (u.put (t.put S).1).2])) (by simp) (by simp; omega) (by omega)
    exact ⟨(g1.trans g2).trans g, h3⟩
theorem putL_grown : ∀ (l : List Tr) {S : Hs}, Whs S → S.up.length + (l.map Tr.size).sum < 500 → Grown S (putTs l S).1 (l.map Tr.size).sum ∧ (∀ n ∈ (putTs l S).2, n < (putTs l S).1.up.length) ∧ (putTs l S).2.length = l.length
  | [], S, W, _ => ⟨⟨W, Nat.le_refl _, Nat.le_refl _, Nat.le_refl _⟩, (fun n h => nomatch h), rfl⟩
  | t :: l, S, W, h => by
    simp only [List.map_cons, List.sum_cons] at h
    obtain ⟨g1, h1⟩ := t.put_grown W (by omega)
    have := g1.up2
    obtain ⟨g2, h2, h3⟩ := putL_grown l g1.w (by omega)
    have := g2.up1
    refine ⟨g1.trans g2, fun n hn => ?_, by simp [putTs, h3]⟩
    rcases List.mem_cons.mp hn with rfl | hn
    · show (t.put S).2 < (putTs l (t.put S).1).1.up.length
      omega
    · exact h2 n hn
theorem Tr.size_eq (t : Tr) : t.size = (t.kids.map Tr.size).sum + 1 := by cases t <;> simp [Tr.size, Tr.kids]
theorem Tr.kids_len (t : Tr) : t.kids.length ≤ 2 := by cases t <;> simp [Tr.kids]
theorem Tr.ok_iff (t : Tr) : t.ok ↔ OpOk t.op ∧ ∀ k ∈ t.kids, k.ok := by cases t <;> simp [Tr.ok, Tr.kids, Tr.op]
theorem Tr.kid_h (t : Tr) : ∀ k ∈ t.kids, k.h + 1 ≤ t.h := by
  cases t <;> simp [Tr.kids, Tr.h] <;> first | exact ⟨Nat.le_max_left _ _, Nat.le_max_right _ _⟩ | omega
theorem sizes_take (l : List Tr) (i : Nat) : ((l.take i).map Tr.size).sum ≤ (l.map Tr.size).sum := by
  conv => rhs; rw [← List.take_append_drop i l, List.map_append, List.sum_append]
  omega
noncomputable def PutC (w : World) (mean : ExcName → Option Value) (mg mb : Str → Option Value) (o : Nat) (x : Addr) (t : Tr) : Prop := ∀ (S : Hs) (ta : Addr), Whs S → Ctr w mean mg mb 303 (20 * t.h) (800 * t.h) [.ref x, .ref ta]
   (fun news reg => HeapR w news reg o x S ∧ DT news reg (.ref ta) t.dat ∧ t.ok ∧ S.up.length + t.size ≤ 63 ∧ S.rows.length + t.size ≤ 1000000)
   (fun news reg r news' reg' => (∃ tk, r = .int ((t.put S).2 : Int) tk) ∧ HeapR w news' reg' o x (t.put S).1 ∧ Gr (RS o allH) reg news reg' news')
theorem heap_put_step (o : Nat) (ho : 15 ≤ o) (x : Addr) (t : Tr) (ih : ∀ k ∈ t.kids, PutC w mean mg mb o x k) : PutC w mean mg mb o x t := by
  intro S ta W
  unfold Ctr
  k_fill
  intro dp un gd cn cs a₀ ccd cl outer A₀ base h₀ L m news reg s Q E B F X N T hk hpre hdp hun hret
  refine bc fun z9 => ?_
  refine el5 hpre fun hH hd hok hup hrw => ?_; try clear hpre
  refine z9 ?_; clear z9; try k_unmd
  obtain ⟨vk, cta, otok, mta, hds⟩ : ∃ vk cta otok, (ta, tupO (.str t.op otok :: vk) cta) ∈ news ∧ DTs news reg vk (t.kids.map Tr.dat) := by
    rw [t.dat_eq] at hd
    cases hd with
    | tuple m r =>
      cases r with
      | cons a b => cases a; exact ⟨_, _, _, m, b⟩
  k_dflt (refine' code_defC ?k1 ?k2 ?k3 ?k4 ?k5 ?kA ?kF ?kK ?k6 ?k7 ?k8 ?k9 ?kB ?kD ?_ ?c2 ?c3 ?c4; (case kA => exact rfl); (case kF => exact rfl); (case kK => assumption); (case k1 => k_asm); (case k2 => k_asm); (case k3 => k_asm); (case k4 => k_asm); (case k5 => k_asm); (case k6 => k_is); (case k7 => k_is); (case k8 => ktr_room); (case k9 => exact BindsTo.of_eq rfl); (case kB => exact rfl); (case kD => decide +kernel); (case c2 => exact rfl); (case c3 => exact rfl); (case c4 => exact rfl); k_whole; intro g' L' h' tk' cells' FG' F' N' Y' B' X' T' l1; k_cells Y'; (try simp only [List.cons_append, List.nil_append] at N'); (try dsimp only); (try k_fold))
  refine' (let AA := _; let EE := _; let QQ := _; let TT : Nat := _; (?_ : wpAny _ AA _ QQ EE ⟨_, _, _, TT, _⟩))
  refine' (let mm : Str → Option Value := _; (fun (F' : Fr _ _ _ mm) => ?_) F'); try k_unmd
  rename_i o1 d1
  refine bc fun z9 => ?_
  obtain ⟨reg1, g1, rc⟩ := Gr.fresh (R := fun _ => False) (reg := reg) (k := 3) (o := o1) (fun p hp => Nat.lt_succ_of_lt (l1 p hp))
  refine z9 ?_; clear z9; try k_unmd
  replace hH := hH.gr g1.toGw id id off_no
  replace d1 : o1.data = .cell (some (.ref x)) := d1
  have mc : (Nat.succ L', o1) ∈ (Nat.succ L', o1) :: news := .head _
  replace mta := g1.keep _ mta id
  replace hds := hds.gr g1.toGw id
  obtain ⟨A, z⟩ := id hH
  have h1 := z.obj.inst
  have h2 := z.obj.dict
  have h3 := z.obj.one
  clear z
  have hvl := hds.length
  rw [List.length_map] at hvl
  have hkl := t.kids_len
  obtain ⟨hop, hoks⟩ := t.ok_iff.mp hok
  have hsz := t.size_eq
  have hh1 : 1 ≤ t.h := by cases t <;> simp [Tr.h]
  walk_at "S"
  refine titem_at (n := 0) (by k_asm) mta rfl (by omega) ?_
  walk_at "S"
  try dsimp only
  refine' tslice_N ?F ?N mta ?hz ?_ ?hs ?hg
  (case F => k_asm); (case N => k_asm); (case hz => rw [sizeLine_eq]; omega); (case hs => with_unfolding_all rfl); (case hg => intro _; with_unfolding_all rfl)
  intro D3 h3' F3 N3 l3
  walk_at "S"
  refine' comp_tup (vs := vk) (c := 0) (reg := reg1) (fun ys news₁ reg₁ => Gr (RS o allH) reg1 ((D3, tupO vk 0) :: (Nat.succ L', o1) :: news) reg₁ news₁ ∧ HeapR w news₁ reg₁ o x (putTs (t.kids.take ys.length) S).1 ∧ IntsAre ys (nats (putTs (t.kids.take ys.length) S).2)) ?hh ?F ?N ?J ?hat ?mono ?n 3 ?c ?k ?x ?turn ?done
  (case hh => rfl); (case F => k_asm); (case N => k_asm)
  (case J => exact ⟨Gr.refl, hH.gr (Gr.cons (R := fun _ => False)).toGw id id off_no, .nil⟩)
  (case hat => exact fun ys news reg h => h.1.tup (.head _))
  (case mono => exact fun b ys news₁ reg₁ news' reg' hb h gw l => ⟨h.1.lo hb l, h.2.1.gr gw (by walk_at "NR") (by walk_at "NR") (by walk_at "NA"), h.2.2⟩)
  (case n => rw [sizeLine_eq]; omega)
  (case c => decide); (case k => rfl); (case x => rfl)
  case turn =>
    intro ys v C oC mC news₁ reg₁ h tk E' hv hp9 hC rC hns hmv F1 N1
    refine bc fun z9 => ?_
    first | refine el3 hp9 fun g hH1 hy => ?_ | (refine ex1 hp9 fun g h9 => ?_; refine el2 h9 fun hH1 hy => ?_; clear h9) | refine ex2 hp9 fun g hH1 hy => ?_ | obtain ⟨g, hH1, hy⟩ := hp9; try clear hp9
    refine z9 ?_; clear z9; try k_unmd
    replace F1 : Fr g' L' h _ := F1
    replace N1 : News g' L' h news₁ := N1
    obtain ⟨A1, z1⟩ := id hH1
    have c1 := z1.obj.inst
    have c2 := z1.obj.dict
    clear z1
    have mc1 := g.at (.tail _ mc) rc (by walk_at "NR")
    have hyk : ys.length < t.kids.length := by
      rcases Nat.lt_or_ge ys.length vk.length with q | q
      · omega
      · rw [List.getElem?_eq_none q] at hv; cases hv
    refine bc fun z9 => ?_
    obtain ⟨k, hk⟩ : ∃ k, t.kids[ys.length]? = some k := ⟨_, List.getElem?_eq_getElem hyk⟩
    refine z9 ?_; clear z9; try k_unmd
    have hkm := List.mem_of_getElem? hk
    have hkh := t.kid_h k hkm
    obtain ⟨v', hv', hdk⟩ := hds.get (k := ys.length) (d := k.dat) (by rw [List.getElem?_map, hk]; rfl)
    obtain rfl : v = v' := Option.some.inj (hv.symm.trans hv')
    obtain ⟨kv, rfl⟩ : ∃ kv, v = .ref kv := by
      rw [k.dat_eq] at hdk
      cases hdk with
      | tuple => exact ⟨_, rfl⟩
    replace hdk := hdk.gr (((Gr.cons (R := RS o allH)).trans g).toGw) (by walk_at "NR")
    have hst : ((t.kids.take (ys.length + 1)).map Tr.size).sum = ((t.kids.take ys.length).map Tr.size).sum + k.size := by
      rw [List.take_add_one, hk]; simp
    have hs1 := sizes_take t.kids (ys.length + 1)
    refine bc fun z9 => ?_
    refine el3 (putL_grown (t.kids.take ys.length) W (by omega)) fun gw1 gl1 gn1 => ?_
    refine z9 ?_; clear z9; try k_unmd
    have hu2 := gw1.up2
    have hr2 := gw1.rows
    walk_at "S"
    try k_fold
    k_dflt (refine' Ctr.use (ih k hkm _ kv gw1.w) ?B ?F ?X ?N ?T ?k ?pre ?d ?u ?_)
    (case B | F | X | N | T => k_asm); (case k => first | exact rfl | assumption); (case d | u => walk_at "ROOM")
    (case pre => exact ⟨hH1, hdk, hoks k hkm, by omega, by omega⟩)
    intro r5 news5 reg5 h5' tk5 F5 N5 hp9; refine bc fun z9 => ?_
    refine el3 hp9 fun hq1 hH5 g5 => ?_; try clear hp9
    obtain ⟨t5, rfl⟩ := hq1
    refine z9 ?_; clear z9; try k_unmd
    try k_sweep
    try dsimp only
    try k_fold
    refine EltEnd.mk (news₂ := news5) (reg₂ := reg5) (RS o allH) (by k_asm) (by k_asm) (by walk_at "NR") (g5) ⟨g.trans g5, ?_⟩
    have e : t.kids.take (ys ++ [Value.int ((k.put (putTs (t.kids.take ys.length) S).1).2 : Int) t5]).length = t.kids.take ys.length ++ [k] := by
      rw [List.length_append, List.length_singleton, List.take_add_one, hk]; rfl
    rw [e, putTs_snoc]
    exact ⟨hH5, ints_snoc hy⟩
  case done =>
    intro ys D c₁ news₁ reg₁ h tk hl hp9 hD rD ltD F1 N1
    refine bc fun z9 => ?_
    first | refine el3 hp9 fun g hH1 hy => ?_ | (refine ex1 hp9 fun g h9 => ?_; refine el2 h9 fun hH1 hy => ?_; clear h9) | refine ex2 hp9 fun g hH1 hy => ?_ | obtain ⟨g, hH1, hy⟩ := hp9; try clear hp9
    refine z9 ?_; clear z9; try k_unmd
    replace F1 : Fr g' L' h _ := F1
    replace N1 : News g' L' h news₁ := N1
    rw [hl, hvl, List.take_length] at hH1 hy
    walk_at "S"
    refine bc fun z9 => ?_
    refine el3 (putL_grown t.kids W (by omega)) fun gw1 gl1 gn1 => ?_
    refine z9 ?_; clear z9; try k_unmd
    have hu2 := gw1.up2
    have hr2 := gw1.rows
    have hyl := hy.length
    simp only [nats, List.length_map] at hyl
    refine tupof_N (by k_asm) (by k_asm) hD (by omega) fun D5 h5 F5 N5 lt5 => ?_
    obtain ⟨A1, z1⟩ := id hH1
    have c1 := z1.obj.inst
    have c2 := z1.obj.dict
    clear z1
    walk_at "S"
    try k_fold
    k_dflt (refine' Ctr.use (w_add o ho x (putTs t.kids S).1 t.op (putTs t.kids S).2 _ D5 ys 0 gw1.w) ?B ?F ?X ?N ?T ?k ?pre ?d ?u ?_)
    (case B | F | X | N | T => k_asm); (case k => first | exact rfl | assumption); (case d | u => walk_at "ROOM")
    (case pre => exact ⟨hH1.gr (Gr.cons (R := fun _ => False)).toGw id id off_no, hop, .head _, hy, by omega, gl1, by omega, by omega⟩)
    intro r6 news6 reg6 h6' tk6 F6 N6 hp9; refine bc fun z9 => ?_
    refine el3 hp9 fun hq2 hH6 g6 => ?_; try clear hp9
    obtain ⟨t6, rfl⟩ := hq2
    refine z9 ?_; clear z9; try k_unmd
    try k_sweep
    try dsimp only
    try k_fold
    walk_at "S"
    refine hret _ news6 reg6 _ _ (by k_asm) (by k_asm) ⟨⟨t6, by rw [t.put_eq]⟩, by rw [t.put_eq]; exact hH6, g1.no.trans (Gr.cons.trans (g.trans (Gr.cons.trans g6)))⟩
theorem heap_put (o : Nat) (ho : 15 ≤ o) (x : Addr) (t : Tr) : PutC w mean mg mb o x t := by
  induction t with
  | leaf op => exact heap_put_step o ho x (.leaf op) (fun k hk => nomatch hk)
  | one op t ih =>
    exact heap_put_step o ho x (.one op t) fun k hk => by
      obtain rfl := List.mem_singleton.mp hk
      exact ih
  | two op t u ih1 ih2 =>
    exact heap_put_step o ho x (.two op t u) fun k hk => by
      rcases List.mem_cons.mp hk with rfl | hk
      · exact ih1
      · obtain rfl := List.mem_singleton.mp hk
        exact ih2
end
section
variable {w : World} {mean : ExcName → Option Value} {mg mb : Str → Option Value}
section
variable {A : Around} {E : Value → Shared → Prop} {s : Shared} {h₀ : Heap} {L : Addr} {m : Str → Option Value} {news : Led} {reg : Reg} {r : Nat}
theorem sattr_N {x dx C : Addr} {name : Str} {v : Value} {es es' : List DictEntry} {n n' : Nat} {Q : Unit → Shared → Prop} (F : Fr h₀ L s.heap m) (X₀ : (KK w.params).In h₀) (N : News h₀ L s.heap news) (hi : (x, instObj C dx) ∈ news) (hd : (dx, dictOf es n) ∈ news) (hr : reg dx = r)
    (hs : findIn (KK w.params) (.ref C) "__setattr__" = some (some (.builtin "object.__setattr__"))) (hp : plainOver (KK w.params) C = true) (ht : takerIn (KK w.params) C name = some none) (hh : hasDictIn (KK w.params) C = true) (hl : (getL name es).isSome = true)
    (e : (putL name (PyData.keyHash w.params name) (.str name (s.toks + 1)) v es, putN name es n) = (es', n')) (hz : es'.length ≤ 1000)
    (h : ∀ h' news', Fr h₀ L h' m → News h₀ L h' news' → Pt r dx reg news news' → (dx, dictOf es' n') ∈ news' → Q () { s with heap := h', toks := s.toks + 2 }) :
    wpAny (model PG w) A (setAttr (.ref x) name v) Q E s :=
  set_dict F X₀ (led_split N hd) (InstAt.of_news N hi hd) rfl hs hp ht hh hl e led_upd hz fun h' F' N' => h h' _ F' N' (gr_put N hd (not_fixed_dict rfl) hr) (.head _)
end
theorem TDict.empty {news : Led} {o : Obj} (h : o.IsDictOf (intKind PG w) []) : TDict w news o (fun _ => none) 0 := by
  obtain ⟨es, ep, hx, hd, _, hp, _⟩ := h
  have he : es.toList = [] := by
    cases q : es.toList with
    | nil => rfl
    | cons a l => rw [q] at hp; cases hp
  exact ⟨[], es, ep, exact_dict hx hd, by simp [he], (fun x hx => by cases hx), List.nodup_nil, rfl, fun k => rfl⟩
theorem IDict.empty {o : Obj} (h : o.IsDictOf (intKind PG w) []) : IDict w o (fun _ => none) 0 := ⟨[], h, fun _ => rfl, Nat.le_refl _⟩
theorem Gr.rereg {R reg news reg' news' d k} (g : Gr R reg news reg' news') (h : ∀ p ∈ news, p.1 < d) : Gr R reg news (fun a => if a = d then k else reg' a) news' := by
  have e : ∀ p ∈ news, (fun a => if a = d then k else reg' a) p.1 = reg' p.1 := fun p hp => if_neg (Nat.ne_of_lt (h p hp))
  exact ⟨⟨g.keep, g.fixed, fun p hp n => (e p hp).trans (g.rg p hp n)⟩, fun p hp => (e p hp).trans (g.regs p hp), g.here⟩
theorem Lo.trans {b reg news reg' news' reg'' news''} (l : Lo b reg news reg' news') (k : Lo b reg' news' reg'' news'') : Lo b reg news reg'' news'' := fun p hp hb => by
  obtain ⟨h1, h2⟩ := l p hp hb
  obtain ⟨h3, h4⟩ := k p h1 hb
  exact ⟨h3, h4.trans h2⟩
theorem Gr.toLo {b reg news reg' news'} (g : Gr (fun _ => False) reg news reg' news') : Lo b reg news reg' news' := fun p hp _ => ⟨g.keep p hp id, g.regs p hp⟩
theorem Pt.toLo {r d reg news news'} (g : Pt r d reg news news') : Lo d reg news reg news' := fun p hp hb => ⟨g.pt p hp (Nat.ne_of_lt hb), g.regs p hp⟩
theorem Lo.gr {b reg news reg' news'} (l : Lo b reg news reg' news') (h : ∀ p ∈ news, p.1 < b) : Gr (fun _ => False) reg news reg' news' :=
  ⟨⟨fun p hp _ => (l p hp (h p hp)).1, fun p hp _ => (l p hp (h p hp)).1, fun p hp _ => (l p hp (h p hp)).2⟩, fun p hp => (l p hp (h p hp)).2, fun p hp => ⟨p.2, (l p hp (h p hp)).1⟩⟩
theorem bank_new (o : Nat) (ho : 15 ≤ o) : Ctr w mean mg mb 181 3 120 [] (fun _ _ => True) (fun news reg r news' reg' => ∃ b, r = .ref b ∧ BankR w news' reg' o b [] ∧ Gr (fun _ => False) reg news reg' news') := by
  unfold Ctr
  k_fill
  intro dp un gd cn cs a₀ ccd cl outer A₀ base h₀ L m news reg s Q E B F X N T hk hpre hdp hun hret
  refine' make_K (C := 181) F N (X.keeps F.keep) ?m1 ?m2 (beq_iff_eq.mp (?m3 : isFn (KK w.params) _ = true)) ?_
  (case m1 => k_is)
  (case m2 => k_is)
  (case m3 => k_is)
  intro x dx h1 F1 N1 l1 l2
  replace N1 : News h₀ L h1 ((x, instObj 181 dx) :: (dx, dictOf [] 0) :: news) := N1
  refine bc fun z9 => ?_
  obtain ⟨reg1, g1, r1⟩ := Gr.fresh (R := fun _ => False) (reg := reg) (k := 3) (o := dictOf [] 0) l1
  refine z9 ?_; clear z9; try k_unmd
  have hi : (x, instObj 181 dx) ∈ (x, instObj 181 dx) :: (dx, dictOf [] 0) :: news := .head _
  have hd : (dx, dictOf [] 0) ∈ (x, instObj 181 dx) :: (dx, dictOf [] 0) :: news := .tail _ (.head _)
  have rd : reg1 dx = 3 := r1
  have gC : Lo dx reg news reg1 ((x, instObj 181 dx) :: (dx, dictOf [] 0) :: news) := g1.toLo.trans (Gr.cons (R := fun _ => False)).toLo
  generalize (x, instObj 181 dx) :: (dx, dictOf [] 0) :: news = news0 at hi hd gC N1
  k_dflt ktr_enter
  refine' (let AA := _; let EE := _; let TT : Nat := _; (?_ : wpAny _ AA _ _ EE ⟨_, _, _, TT, _⟩))
  with_reducible rename Fr _ _ _ _ => kF
  refine' (let mm : Str → Option Value := _; (fun (kF : Fr _ _ _ mm) => ?_) kF); try k_unmd
  walk_at "NM"
  repeat' (first | ((try k_unmd); k_unfold; (try dsimp only)) | ((try dsimp only); (fail_if_success (with_reducible (first | show wpAny _ _ (setAttr _ _ _) _ _ _ | show wpAny _ _ (call _ _ _) _ _ _))); walk1) | (leave1; try dsimp only))
  rename_i a1 h2 F2 N2 lt2
  refine bc fun z9 => ?_
  obtain ⟨reg2, g2, r2⟩ := Gr.fresh (R := fun _ => False) (reg := reg1) (k := o + 1) (o := lisO [] 0) lt2
  refine z9 ?_; clear z9; try k_unmd
  replace hi := g2.inst hi
  replace rd := (g2.regs _ hd).trans rd
  replace hd := List.mem_cons_of_mem (a1, lisO [] 0) hd
  refine' sattr_N (r := 3) (reg := reg2) ?F ?X ?N hi hd rd ?hs ?hp ?ht ?hh ?hl ?e ?hz ?_
  (case F => k_asm); (case X => k_asm); (case N => k_asm); (case hs => k_is); (case hp => k_is); (case ht => k_is); (case hh => k_is); (case hl => k_get); (case e => k_put); (case hz => exact Nat.le_of_ble_eq_true rfl)
  intro h3 news3 F3 N3 g3 m3
  k_sweep
  have e1 := g3.both (.head _) r2 (by walk_at "NR")
  replace hi := g3.inst hi
  replace rd : reg2 dx = 3 := rd
  have gC2 := gC.trans (g2.toLo.trans g3.toLo)
  clear g2 g3 lt2
  repeat' (first | ((try k_unmd); k_unfold; (try dsimp only)) | ((try dsimp only); (fail_if_success (with_reducible (first | show wpAny _ _ (setAttr _ _ _) _ _ _ | show wpAny _ _ (call _ _ _) _ _ _))); walk1) | (leave1; try dsimp only))
  rename_i a2 h4 o2 F4 N4 lt4 hlo hs2 fs2 hi2 fi2
  refine bc fun z9 => ?_
  obtain ⟨reg4, g4, r4⟩ := Gr.fresh (R := fun _ => False) (reg := reg2) (k := o + 2) (o := o2) lt4
  refine z9 ?_; clear z9; try k_unmd
  replace hi := g4.inst hi
  replace rd := (g4.regs _ m3).trans rd
  replace m3 := List.mem_cons_of_mem (a2, o2) m3
  refine' sattr_N (r := 3) (reg := reg4) ?F ?X ?N hi m3 rd ?hs ?hp ?ht ?hh ?hl ?e ?hz ?_
  (case F => k_asm); (case X => k_asm); (case N => k_asm); (case hs => k_is); (case hp => k_is); (case ht => k_is); (case hh => k_is); (case hl => k_get); (case e => k_put); (case hz => exact Nat.le_of_ble_eq_true rfl)
  intro h5 news5 F5 N5 g5 m5
  k_sweep
  have g45 := (g4.no (R := fun k => k = 3)).trans g5.toGr
  have l45 := g4.toLo.trans g5.toLo
  have e2 := g5.both (.head _) r4 (by walk_at "NR")
  replace e1 := g45.both e1.1 e1.2 (by walk_at "NR")
  replace hi := g5.inst hi
  have gC3 := gC2.trans l45
  clear g4 g5 g45 gC2 lt4
  repeat' (first | ((try k_unmd); k_unfold; (try dsimp only)) | ((try dsimp only); (fail_if_success (with_reducible (first | show wpAny _ _ (setAttr _ _ _) _ _ _ | show wpAny _ _ (call _ _ _) _ _ _))); walk1) | (leave1; try dsimp only))
  rename_i a3 h6 F6 N6 lt6
  refine bc fun z9 => ?_
  obtain ⟨reg6, g6, r6⟩ := Gr.fresh (R := fun _ => False) (reg := reg4) (k := o + 3) (o := lisO [] 0) lt6
  refine z9 ?_; clear z9; try k_unmd
  replace hi := g6.inst hi
  replace rd := (g6.regs _ m5).trans rd
  replace m5 := List.mem_cons_of_mem (a3, lisO [] 0) m5
  refine' sattr_N (r := 3) (reg := reg6) ?F ?X ?N hi m5 rd ?hs ?hp ?ht ?hh ?hl ?e ?hz ?_
  (case F => k_asm); (case X => k_asm); (case N => k_asm); (case hs => k_is); (case hp => k_is); (case ht => k_is); (case hh => k_is); (case hl => k_get); (case e => k_put); (case hz => exact Nat.le_of_ble_eq_true rfl)
  intro h7 news7 F7 N7 g7 m7
  k_sweep
  have g67 := (g6.no (R := fun k => k = 3)).trans g7.toGr
  have l67 := g6.toLo.trans g7.toLo
  have e3 := g7.both (.head _) r6 (by walk_at "NR")
  replace e1 := g67.both e1.1 e1.2 (by walk_at "NR")
  replace e2 := g67.both e2.1 e2.2 (by walk_at "NR")
  replace hi := g7.inst hi
  have gC4 := gC3.trans l67
  clear g6 g7 g67 gC3 lt6
  repeat' (first | ((try k_unmd); k_unfold; (try dsimp only)) | ((try dsimp only); (fail_if_success (with_reducible (first | show wpAny _ _ (setAttr _ _ _) _ _ _ | show wpAny _ _ (call _ _ _) _ _ _))); walk1) | (leave1; try dsimp only))
  rename_i a4 h8 F8 N8 lt8
  refine bc fun z9 => ?_
  obtain ⟨reg8, g8, r8⟩ := Gr.fresh (R := fun _ => False) (reg := reg6) (k := o + 4) (o := lisO [] 0) lt8
  refine z9 ?_; clear z9; try k_unmd
  replace hi := g8.inst hi
  replace rd := (g8.regs _ m7).trans rd
  replace m7 := List.mem_cons_of_mem (a4, lisO [] 0) m7
  refine' sattr_N (r := 3) (reg := reg8) ?F ?X ?N hi m7 rd ?hs ?hp ?ht ?hh ?hl ?e ?hz ?_
  (case F => k_asm); (case X => k_asm); (case N => k_asm); (case hs => k_is); (case hp => k_is); (case ht => k_is); (case hh => k_is); (case hl => k_get); (case e => k_put); (case hz => exact Nat.le_of_ble_eq_true rfl)
  intro h9 news9 F9 N9 g9 m9
  k_sweep
  have g89 := (g8.no (R := fun k => k = 3)).trans g9.toGr
  have l89 := g8.toLo.trans g9.toLo
  have e4 := g9.both (.head _) r8 (by walk_at "NR")
  replace e1 := g89.both e1.1 e1.2 (by walk_at "NR")
  replace e2 := g89.both e2.1 e2.2 (by walk_at "NR")
  replace e3 := g89.both e3.1 e3.2 (by walk_at "NR")
  replace hi := g9.inst hi
  have gC5 := gC4.trans l89
  clear g8 g9 g89 gC4 lt8
  walk_at "S"
  have gF : Gr (fun _ => False) reg news (fun a => if a = dx then 1 else reg8 a) news9 := (gC5.gr l1).rereg l1
  have gw := gw_rename (news := news9) (D := dx) (k := 1) rd
  refine hret (.ref x) news9 (fun a => if a = dx then 1 else reg8 a) _ _ (by k_asm) (by k_asm) ⟨x, rfl, ?_, gF⟩
  replace e1 := gw.both e1.1 e1.2 (by walk_at "NR")
  replace e2 := gw.both e2.1 e2.2 (by walk_at "NR")
  replace e3 := gw.both e3.1 e3.2 (by walk_at "NR")
  replace e4 := gw.both e4.1 e4.2 (by walk_at "NR")
  exact ⟨⟨dx, a1, a2, a3, a4, _, _, _, _, 0, 0, 0, [], [], [], [], [], o2⟩, ⟨hi, m9, if_pos rfl, e1.1, e1.2, .nil, e2.1, e2.2, TDict.empty hi2, hlo, e3.1, e3.2, .nil, rfl, e4.1, e4.2, .nil, rfl, ⟨fun i n h => by simp at h, by simp⟩⟩⟩
end
section
variable {w : World} {mean : ExcName → Option Value} {mg mb : Str → Option Value}
theorem uni_new (o : Nat) (ho : 15 ≤ o) : Ctr w mean mg mb 263 3 120 [] (fun _ _ => True) (fun news reg r news' reg' => ∃ u, r = .ref u ∧ UniR w news' reg' o u [] ∧ Gr (fun _ => False) reg news reg' news') := by
  unfold Ctr
  k_fill
  intro dp un gd cn cs a₀ ccd cl outer A₀ base h₀ L m news reg s Q E B F X N T hk hpre hdp hun hret
  refine' make_K (C := 263) F N (X.keeps F.keep) ?m1 ?m2 (beq_iff_eq.mp (?m3 : isFn (KK w.params) _ = true)) ?_
  (case m1 => k_is)
  (case m2 => k_is)
  (case m3 => k_is)
  intro x dx h1 F1 N1 l1 l2
  replace N1 : News h₀ L h1 ((x, instObj 263 dx) :: (dx, dictOf [] 0) :: news) := N1
  refine bc fun z9 => ?_
  obtain ⟨reg0, g1, r1⟩ := Gr.fresh (R := fun _ => False) (reg := reg) (k := 3) (o := dictOf [] 0) l1
  refine z9 ?_; clear z9; try k_unmd
  have hi : (x, instObj 263 dx) ∈ (x, instObj 263 dx) :: (dx, dictOf [] 0) :: news := .head _
  have m0 : (dx, dictOf [] 0) ∈ (x, instObj 263 dx) :: (dx, dictOf [] 0) :: news := .tail _ (.head _)
  have rd : reg0 dx = 3 := r1
  have gC : Lo dx reg news reg0 ((x, instObj 263 dx) :: (dx, dictOf [] 0) :: news) := g1.toLo.trans (Gr.cons (R := fun _ => False)).toLo
  generalize (x, instObj 263 dx) :: (dx, dictOf [] 0) :: news = news0 at hi m0 gC N1
  k_dflt ktr_enter
  refine' (let AA := _; let EE := _; let TT : Nat := _; (?_ : wpAny _ AA _ _ EE ⟨_, _, _, TT, _⟩))
  with_reducible rename Fr _ _ _ _ => kF
  refine' (let mm : Str → Option Value := _; (fun (kF : Fr _ _ _ mm) => ?_) kF); try k_unmd
  walk_at "NM"
  repeat' (first | ((try k_unmd); k_unfold; (try dsimp only)) | ((try dsimp only); (fail_if_success (with_reducible (first | show wpAny _ _ (setAttr _ _ _) _ _ _ | show wpAny _ _ (call _ _ _) _ _ _))); walk1) | (leave1; try dsimp only))
  rename_i a1 hh1 FF1 NN1 lt1
  refine bc fun z9 => ?_
  obtain ⟨reg1, g1, r1⟩ := Gr.fresh (R := fun _ => False) (reg := reg0) (k := o + 5) (o := lisO [] 0) lt1
  refine z9 ?_; clear z9; try k_unmd
  replace hi := g1.inst hi
  replace rd := (g1.regs _ m0).trans rd
  replace m0 := List.mem_cons_of_mem (a1, lisO [] 0) m0
  refine' sattr_N (r := 3) (reg := reg1) ?F ?X ?N hi m0 rd ?hs ?hp ?ht ?hh ?hl ?e ?hz ?_
  (case F => k_asm); (case X => k_asm); (case N => k_asm); (case hs => k_is); (case hp => k_is); (case ht => k_is); (case hh => k_is); (case hl => k_get); (case e => k_put); (case hz => exact Nat.le_of_ble_eq_true rfl)
  intro hp1 news1 Fp1 Np1 p1 m1
  k_sweep
  have q1 := (g1.no (R := fun k => k = 3)).trans p1.toGr
  replace gC := gC.trans (g1.toLo.trans p1.toLo)
  have e1 := p1.both (.head _) r1 (by walk_at "NR")
  replace hi := p1.inst hi
  clear g1 p1 q1 lt1
  repeat' (first | ((try k_unmd); k_unfold; (try dsimp only)) | ((try dsimp only); (fail_if_success (with_reducible (first | show wpAny _ _ (setAttr _ _ _) _ _ _ | show wpAny _ _ (call _ _ _) _ _ _))); walk1) | (leave1; try dsimp only))
  rename_i a2 hh2 FF2 NN2 lt2
  refine bc fun z9 => ?_
  obtain ⟨reg2, g2, r2⟩ := Gr.fresh (R := fun _ => False) (reg := reg1) (k := o + 6) (o := lisO [] 0) lt2
  refine z9 ?_; clear z9; try k_unmd
  replace hi := g2.inst hi
  replace rd := (g2.regs _ m1).trans rd
  replace m1 := List.mem_cons_of_mem (a2, lisO [] 0) m1
  refine' sattr_N (r := 3) (reg := reg2) ?F ?X ?N hi m1 rd ?hs ?hp ?ht ?hh ?hl ?e ?hz ?_
  (case F => k_asm); (case X => k_asm); (case N => k_asm); (case hs => k_is); (case hp => k_is); (case ht => k_is); (case hh => k_is); (case hl => k_get); (case e => k_put); (case hz => exact Nat.le_of_ble_eq_true rfl)
  intro hp2 news2 Fp2 Np2 p2 m2
  k_sweep
  have q2 := (g2.no (R := fun k => k = 3)).trans p2.toGr
  replace gC := gC.trans (g2.toLo.trans p2.toLo)
  replace e1 := q2.both e1.1 e1.2 (by walk_at "NR")
  have e2 := p2.both (.head _) r2 (by walk_at "NR")
  replace hi := p2.inst hi
  clear g2 p2 q2 lt2
  repeat' (first | ((try k_unmd); k_unfold; (try dsimp only)) | ((try dsimp only); (fail_if_success (with_reducible (first | show wpAny _ _ (setAttr _ _ _) _ _ _ | show wpAny _ _ (call _ _ _) _ _ _))); walk1) | (leave1; try dsimp only))
  rename_i a3 hh3 FF3 NN3 lt3
  refine bc fun z9 => ?_
  obtain ⟨reg3, g3, r3⟩ := Gr.fresh (R := fun _ => False) (reg := reg2) (k := o + 8) (o := lisO [] 0) lt3
  refine z9 ?_; clear z9; try k_unmd
  replace hi := g3.inst hi
  replace rd := (g3.regs _ m2).trans rd
  replace m2 := List.mem_cons_of_mem (a3, lisO [] 0) m2
  refine' sattr_N (r := 3) (reg := reg3) ?F ?X ?N hi m2 rd ?hs ?hp ?ht ?hh ?hl ?e ?hz ?_
  (case F => k_asm); (case X => k_asm); (case N => k_asm); (case hs => k_is); (case hp => k_is); (case ht => k_is); (case hh => k_is); (case hl => k_get); (case e => k_put); (case hz => exact Nat.le_of_ble_eq_true rfl)
  intro hp3 news3 Fp3 Np3 p3 m3
  k_sweep
  have q3 := (g3.no (R := fun k => k = 3)).trans p3.toGr
  replace gC := gC.trans (g3.toLo.trans p3.toLo)
  replace e1 := q3.both e1.1 e1.2 (by walk_at "NR")
  replace e2 := q3.both e2.1 e2.2 (by walk_at "NR")
  have e3 := p3.both (.head _) r3 (by walk_at "NR")
  replace hi := p3.inst hi
  clear g3 p3 q3 lt3
  walk_at "S"
  have gF : Gr (fun _ => False) reg news (fun a => if a = dx then 1 else reg3 a) news3 := (gC.gr l1).rereg l1
  have gw := gw_rename (news := news3) (D := dx) (k := 1) rd
  refine hret (.ref x) news3 (fun a => if a = dx then 1 else reg3 a) _ _ (by k_asm) (by k_asm) ⟨x, rfl, ?_, gF⟩
  replace e1 := gw.both e1.1 e1.2 (by walk_at "NR")
  replace e2 := gw.both e2.1 e2.2 (by walk_at "NR")
  replace e3 := gw.both e3.1 e3.2 (by walk_at "NR")
  exact ⟨⟨dx, a1, a2, a3, _, _, _, 0, 0, 0, [], [], [], fun _ => 0⟩, ⟨hi, m3, if_pos rfl, e1.1, e1.2, .nil, e2.1, e2.2, rfl, List.nodup_nil, fun i a h => by simp at h, Nat.le_refl _, e3.1, e3.2, Nat.le_refl _, ⟨fun i => by simp, by simp⟩⟩⟩
structure HInit (w : World) (news : Led) (reg : Reg) (o : Nat) (x : Addr) (A : HI) : Prop where
  inst : (x, instObj 449 A.xd) ∈ news
  dict : (A.xd, dictOf [⟨HK w "bank", .str "bank" A.t1, .ref A.bb⟩, ⟨HK w "unions", .str "unions" A.t2, .ref A.uu⟩, ⟨HK w "edges", .str "edges" A.t3, .ref A.le⟩, ⟨HK w "forest", .str "forest" A.t4, .ref A.lf⟩, ⟨HK w "known", .str "known" A.t5, .ref A.dk⟩,
    ⟨HK w "above", .str "above" A.t6, .ref A.da⟩, ⟨HK w "waiting", .str "waiting" A.t7, .ref A.lw⟩] 7) ∈ news
  three : reg A.xd = 3
  bank : BankR w news reg o A.bb []
  uni : UniR w news reg o A.uu []
  edges : LenL news reg (o + 9) A.le 0
  forest : LenL news reg (o + 10) A.lf 0
  known : KnoR w news reg (o + 11) A.dk (fun _ => none) 0
  above : AbvR w news reg o A.da [] (fun _ => [])
  wait : IntL news reg (o + 14) A.lw []
theorem heap_init (o : Nat) (ho : 15 ≤ o) (x dx : Addr) : Ctr w mean mg mb 281 4 200 [.ref x]
   (fun news reg => (x, instObj 449 dx) ∈ news ∧ (dx, dictOf [] 0) ∈ news ∧ reg dx = 3)
   (fun news reg r news' reg' => r = .none ∧ (∃ A : HI, A.xd = dx ∧ HInit w news' reg' o x A) ∧ Lo dx reg news reg' news') := by
  unfold Ctr
  k_fill
  intro dp un gd cn cs a₀ ccd cl outer A₀ base h₀ L m news reg s Q E B F X N T hk hpre hdp hun hret
  refine bc fun z9 => ?_
  refine el3 hpre fun hi m0 rd => ?_; try clear hpre
  refine z9 ?_; clear z9; try k_unmd
  have gC : Lo dx reg news reg news := (Gr.refl (R := fun _ => False)).toLo
  k_dflt ktr_enter
  refine' (let AA := _; let EE := _; let TT : Nat := _; (?_ : wpAny _ AA _ _ EE ⟨_, _, _, TT, _⟩))
  with_reducible rename Fr _ _ _ _ => kF
  refine' (let mm : Str → Option Value := _; (fun (kF : Fr _ _ _ mm) => ?_) kF); try k_unmd
  walk_at "NM"
  repeat' (first | ((try k_unmd); k_unfold; (try dsimp only)) | ((try dsimp only); (fail_if_success (with_reducible (first | show wpAny _ _ (setAttr _ _ _) _ _ _ | show wpAny _ _ (call _ _ _) _ _ _))); walk1) | (leave1; try dsimp only))
  try k_fold
  k_dflt (refine' Ctr.use (reg := reg) (bank_new o ho) ?B ?F ?X ?N ?T ?k ?pre ?d ?u ?_)
  (case B | F | X | N | T => k_asm); (case k => first | exact rfl | assumption); (case d | u => walk_at "ROOM")
  (case pre => trivial)
  intro r1 news1 reg1 h1' tk1 F1 N1 hp9; refine bc fun z9 => ?_
  refine ex1 hp9 fun bb h9 => ?_; refine el3 h9 fun hq1 hB g1 => ?_; clear h9; try clear hp9
  obtain rfl := hq1
  refine z9 ?_; clear z9; try k_unmd
  try k_sweep
  try dsimp only
  try k_fold
  replace hi := g1.inst hi
  replace rd := (g1.regs _ m0).trans rd
  replace m0 := g1.keep _ m0 id
  replace gC := gC.trans g1.toLo
  repeat' (first | ((try k_unmd); k_unfold; (try dsimp only)) | ((try dsimp only); (fail_if_success (with_reducible (first | show wpAny _ _ (setAttr _ _ _) _ _ _ | show wpAny _ _ (call _ _ _) _ _ _))); walk1) | (leave1; try dsimp only))
  refine' sattr_N (r := 3) (reg := reg1) ?F ?X ?N hi m0 rd ?hs ?hp ?ht ?hh ?hl ?e ?hz ?_
  (case F => k_asm); (case X => k_asm); (case N => k_asm); (case hs => k_is); (case hp => k_is); (case ht => k_is); (case hh => k_is); (case hl => k_get); (case e => k_put); (case hz => exact Nat.le_of_ble_eq_true rfl)
  intro hp1 newsA Fp1 Np1 p1 m1
  k_sweep
  replace hB := hB.gr p1.toGr.toGw (by walk_at "NR") (by walk_at "NR") (by walk_at "NA")
  replace gC := gC.trans p1.toLo
  replace hi := p1.inst hi
  clear p1 g1
  repeat' (first | ((try k_unmd); k_unfold; (try dsimp only)) | ((try dsimp only); (fail_if_success (with_reducible (first | show wpAny _ _ (setAttr _ _ _) _ _ _ | show wpAny _ _ (call _ _ _) _ _ _))); walk1) | (leave1; try dsimp only))
  try k_fold
  k_dflt (refine' Ctr.use (reg := reg1) (uni_new o ho) ?B ?F ?X ?N ?T ?k ?pre ?d ?u ?_)
  (case B | F | X | N | T => k_asm); (case k => first | exact rfl | assumption); (case d | u => walk_at "ROOM")
  (case pre => trivial)
  intro r2 news2 reg2 h2' tk2 F2 N2 hp9; refine bc fun z9 => ?_
  refine ex1 hp9 fun uu h9 => ?_; refine el3 h9 fun hq2 hU g2 => ?_; clear h9; try clear hp9
  obtain rfl := hq2
  refine z9 ?_; clear z9; try k_unmd
  try k_sweep
  try dsimp only
  try k_fold
  replace hi := g2.inst hi
  replace rd := (g2.regs _ m1).trans rd
  replace m1 := g2.keep _ m1 id
  replace gC := gC.trans g2.toLo
  replace hB := hB.gr g2.toGw id id off_no
  repeat' (first | ((try k_unmd); k_unfold; (try dsimp only)) | ((try dsimp only); (fail_if_success (with_reducible (first | show wpAny _ _ (setAttr _ _ _) _ _ _ | show wpAny _ _ (call _ _ _) _ _ _))); walk1) | (leave1; try dsimp only))
  refine' sattr_N (r := 3) (reg := reg2) ?F ?X ?N hi m1 rd ?hs ?hp ?ht ?hh ?hl ?e ?hz ?_
  (case F => k_asm); (case X => k_asm); (case N => k_asm); (case hs => k_is); (case hp => k_is); (case ht => k_is); (case hh => k_is); (case hl => k_get); (case e => k_put); (case hz => exact Nat.le_of_ble_eq_true rfl)
  intro hp2 newsB Fp2 Np2 p2 m2
  k_sweep
  replace hB := hB.gr p2.toGr.toGw (by walk_at "NR") (by walk_at "NR") (by walk_at "NA")
  replace hU := hU.gr p2.toGr.toGw (by walk_at "NR") (by walk_at "NA")
  replace gC := gC.trans p2.toLo
  replace hi := p2.inst hi
  clear p2 g2
  repeat' (first | ((try k_unmd); k_unfold; (try dsimp only)) | ((try dsimp only); (fail_if_success (with_reducible (first | show wpAny _ _ (setAttr _ _ _) _ _ _ | show wpAny _ _ (call _ _ _) _ _ _))); walk1) | (leave1; try dsimp only))
  rename_i a3 hh3 FF3 NN3 lt3
  refine bc fun z9 => ?_
  obtain ⟨reg3, g3, r3⟩ := Gr.fresh (R := fun _ => False) (reg := reg2) (k := o + 9) (o := lisO [] 0) lt3
  refine z9 ?_; clear z9; try k_unmd
  replace hi := g3.inst hi
  replace rd := (g3.regs _ m2).trans rd
  replace m2 := List.mem_cons_of_mem (a3, lisO [] 0) m2
  refine' sattr_N (r := 3) (reg := reg3) ?F ?X ?N hi m2 rd ?hs ?hp ?ht ?hh ?hl ?e ?hz ?_
  (case F => k_asm); (case X => k_asm); (case N => k_asm); (case hs => k_is); (case hp => k_is); (case ht => k_is); (case hh => k_is); (case hl => k_get); (case e => k_put); (case hz => exact Nat.le_of_ble_eq_true rfl)
  intro hp3 news3 Fp3 Np3 p3 m3
  k_sweep
  have q3 := (g3.no (R := fun k => k = 3)).trans p3.toGr
  replace gC := gC.trans (g3.toLo.trans p3.toLo)
  replace hB := hB.gr q3.toGw (by walk_at "NR") (by walk_at "NR") (by walk_at "NA")
  replace hU := hU.gr q3.toGw (by walk_at "NR") (by walk_at "NA")
  have e3 := p3.both (.head _) r3 (by walk_at "NR")
  replace hi := p3.inst hi
  clear g3 p3 q3 lt3
  repeat' (first | ((try k_unmd); k_unfold; (try dsimp only)) | ((try dsimp only); (fail_if_success (with_reducible (first | show wpAny _ _ (setAttr _ _ _) _ _ _ | show wpAny _ _ (call _ _ _) _ _ _))); walk1) | (leave1; try dsimp only))
  rename_i a4 hh4 FF4 NN4 lt4
  refine bc fun z9 => ?_
  obtain ⟨reg4, g4, r4⟩ := Gr.fresh (R := fun _ => False) (reg := reg3) (k := o + 10) (o := lisO [] 0) lt4
  refine z9 ?_; clear z9; try k_unmd
  replace hi := g4.inst hi
  replace rd := (g4.regs _ m3).trans rd
  replace m3 := List.mem_cons_of_mem (a4, lisO [] 0) m3
  refine' sattr_N (r := 3) (reg := reg4) ?F ?X ?N hi m3 rd ?hs ?hp ?ht ?hh ?hl ?e ?hz ?_
  (case F => k_asm); (case X => k_asm); (case N => k_asm); (case hs => k_is); (case hp => k_is); (case ht => k_is); (case hh => k_is); (case hl => k_get); (case e => k_put); (case hz => exact Nat.le_of_ble_eq_true rfl)
  intro hp4 news4 Fp4 Np4 p4 m4
  k_sweep
  have q4 := (g4.no (R := fun k => k = 3)).trans p4.toGr
  replace gC := gC.trans (g4.toLo.trans p4.toLo)
  replace hB := hB.gr q4.toGw (by walk_at "NR") (by walk_at "NR") (by walk_at "NA")
  replace hU := hU.gr q4.toGw (by walk_at "NR") (by walk_at "NA")
  replace e3 := q4.both e3.1 e3.2 (by walk_at "NR")
  have e4 := p4.both (.head _) r4 (by walk_at "NR")
  replace hi := p4.inst hi
  clear g4 p4 q4 lt4
  repeat' (first | ((try k_unmd); k_unfold; (try dsimp only)) | ((try dsimp only); (fail_if_success (with_reducible (first | show wpAny _ _ (setAttr _ _ _) _ _ _ | show wpAny _ _ (call _ _ _) _ _ _))); walk1) | (leave1; try dsimp only))
  rename_i a5 hh5 o5 FF5 NN5 lt5 hlo5 hs5 fs5 hi5 fi5
  refine bc fun z9 => ?_
  obtain ⟨reg5, g5, r5⟩ := Gr.fresh (R := fun _ => False) (reg := reg4) (k := o + 11) (o := o5) lt5
  refine z9 ?_; clear z9; try k_unmd
  replace hi := g5.inst hi
  replace rd := (g5.regs _ m4).trans rd
  replace m4 := List.mem_cons_of_mem (a5, o5) m4
  refine' sattr_N (r := 3) (reg := reg5) ?F ?X ?N hi m4 rd ?hs ?hp ?ht ?hh ?hl ?e ?hz ?_
  (case F => k_asm); (case X => k_asm); (case N => k_asm); (case hs => k_is); (case hp => k_is); (case ht => k_is); (case hh => k_is); (case hl => k_get); (case e => k_put); (case hz => exact Nat.le_of_ble_eq_true rfl)
  intro hp5 news5 Fp5 Np5 p5 m5
  k_sweep
  have q5 := (g5.no (R := fun k => k = 3)).trans p5.toGr
  replace gC := gC.trans (g5.toLo.trans p5.toLo)
  replace hB := hB.gr q5.toGw (by walk_at "NR") (by walk_at "NR") (by walk_at "NA")
  replace hU := hU.gr q5.toGw (by walk_at "NR") (by walk_at "NA")
  replace e3 := q5.both e3.1 e3.2 (by walk_at "NR")
  replace e4 := q5.both e4.1 e4.2 (by walk_at "NR")
  have e5 := p5.both (.head _) r5 (by walk_at "NR")
  replace hi := p5.inst hi
  clear g5 p5 q5 lt5
  repeat' (first | ((try k_unmd); k_unfold; (try dsimp only)) | ((try dsimp only); (fail_if_success (with_reducible (first | show wpAny _ _ (setAttr _ _ _) _ _ _ | show wpAny _ _ (call _ _ _) _ _ _))); walk1) | (leave1; try dsimp only))
  rename_i a6 hh6 o6 FF6 NN6 lt6 hlo6 hs6 fs6 hi6 fi6
  refine bc fun z9 => ?_
  obtain ⟨reg6, g6, r6⟩ := Gr.fresh (R := fun _ => False) (reg := reg5) (k := o + 12) (o := o6) lt6
  refine z9 ?_; clear z9; try k_unmd
  replace hi := g6.inst hi
  replace rd := (g6.regs _ m5).trans rd
  replace m5 := List.mem_cons_of_mem (a6, o6) m5
  refine' sattr_N (r := 3) (reg := reg6) ?F ?X ?N hi m5 rd ?hs ?hp ?ht ?hh ?hl ?e ?hz ?_
  (case F => k_asm); (case X => k_asm); (case N => k_asm); (case hs => k_is); (case hp => k_is); (case ht => k_is); (case hh => k_is); (case hl => k_get); (case e => k_put); (case hz => exact Nat.le_of_ble_eq_true rfl)
  intro hp6 news6 Fp6 Np6 p6 m6
  k_sweep
  have q6 := (g6.no (R := fun k => k = 3)).trans p6.toGr
  replace gC := gC.trans (g6.toLo.trans p6.toLo)
  replace hB := hB.gr q6.toGw (by walk_at "NR") (by walk_at "NR") (by walk_at "NA")
  replace hU := hU.gr q6.toGw (by walk_at "NR") (by walk_at "NA")
  replace e3 := q6.both e3.1 e3.2 (by walk_at "NR")
  replace e4 := q6.both e4.1 e4.2 (by walk_at "NR")
  replace e5 := q6.both e5.1 e5.2 (by walk_at "NR")
  have e6 := p6.both (.head _) r6 (by walk_at "NR")
  replace hi := p6.inst hi
  clear g6 p6 q6 lt6
  repeat' (first | ((try k_unmd); k_unfold; (try dsimp only)) | ((try dsimp only); (fail_if_success (with_reducible (first | show wpAny _ _ (setAttr _ _ _) _ _ _ | show wpAny _ _ (call _ _ _) _ _ _))); walk1) | (leave1; try dsimp only))
  rename_i a7 hh7 FF7 NN7 lt7
  refine bc fun z9 => ?_
  obtain ⟨reg7, g7, r7⟩ := Gr.fresh (R := fun _ => False) (reg := reg6) (k := o + 14) (o := lisO [] 0) lt7
  refine z9 ?_; clear z9; try k_unmd
  replace hi := g7.inst hi
  replace rd := (g7.regs _ m6).trans rd
  replace m6 := List.mem_cons_of_mem (a7, lisO [] 0) m6
  refine' sattr_N (r := 3) (reg := reg7) ?F ?X ?N hi m6 rd ?hs ?hp ?ht ?hh ?hl ?e ?hz ?_
  (case F => k_asm); (case X => k_asm); (case N => k_asm); (case hs => k_is); (case hp => k_is); (case ht => k_is); (case hh => k_is); (case hl => k_get); (case e => k_put); (case hz => exact Nat.le_of_ble_eq_true rfl)
  intro hp7 news7 Fp7 Np7 p7 m7
  k_sweep
  have q7 := (g7.no (R := fun k => k = 3)).trans p7.toGr
  replace gC := gC.trans (g7.toLo.trans p7.toLo)
  replace hB := hB.gr q7.toGw (by walk_at "NR") (by walk_at "NR") (by walk_at "NA")
  replace hU := hU.gr q7.toGw (by walk_at "NR") (by walk_at "NA")
  replace e3 := q7.both e3.1 e3.2 (by walk_at "NR")
  replace e4 := q7.both e4.1 e4.2 (by walk_at "NR")
  replace e5 := q7.both e5.1 e5.2 (by walk_at "NR")
  replace e6 := q7.both e6.1 e6.2 (by walk_at "NR")
  have e7 := p7.both (.head _) r7 (by walk_at "NR")
  replace hi := p7.inst hi
  clear g7 p7 q7 lt7
  walk_at "S"
  refine hret .none news7 reg7 _ _ (by k_asm) (by k_asm) ⟨rfl, ⟨⟨dx, bb, uu, a3, a4, a5, a6, a7, 0, _, _, _, _, _, _, _, 0⟩, rfl, ⟨hi, m7, rd, hB, hU, ⟨[], _, e3.1, e3.2, rfl⟩, ⟨[], _, e4.1, e4.2, rfl⟩, ⟨_, e5.1, e5.2, TDict.empty hi5, hlo5⟩, ⟨_, _, e6.1, e6.2, IDict.empty hi6, ⟨fun r hr => by simp at hr, fun r r' a hr => by simp at hr⟩⟩, ⟨[], _, e7.1, e7.2, .nil⟩⟩⟩, gC⟩
end
section
variable {w : World} {mean : ExcName → Option Value} {mg mb : Str → Option Value}
theorem w_new (o : Nat) (ho : 15 ≤ o) : Ctr w mean mg mb 449 7 320 [] (fun _ _ => True) (fun news reg r news' reg' => ∃ x, r = .ref x ∧ HeapR w news' reg' o x {} ∧ Gr (fun _ => False) reg news reg' news') := by
  unfold Ctr
  k_fill
  intro dp un gd cn cs a₀ ccd cl outer A₀ base h₀ L m news reg s Q E B F X N T hk hpre hdp hun hret
  refine' make_K (C := 449) F N (X.keeps F.keep) ?m1 ?m2 (beq_iff_eq.mp (?m3 : isFn (KK w.params) _ = true)) ?_
  (case m1 => k_is)
  (case m2 => k_is)
  (case m3 => k_is)
  intro x dx h1 F1 N1 l1 l2
  replace N1 : News h₀ L h1 ((x, instObj 449 dx) :: (dx, dictOf [] 0) :: news) := N1
  refine bc fun z9 => ?_
  obtain ⟨reg0, g1, r1⟩ := Gr.fresh (R := fun _ => False) (reg := reg) (k := 3) (o := dictOf [] 0) l1
  refine z9 ?_; clear z9; try k_unmd
  have hi : (x, instObj 449 dx) ∈ (x, instObj 449 dx) :: (dx, dictOf [] 0) :: news := .head _
  have m0 : (dx, dictOf [] 0) ∈ (x, instObj 449 dx) :: (dx, dictOf [] 0) :: news := .tail _ (.head _)
  have rd : reg0 dx = 3 := r1
  have gC : Lo dx reg news reg0 ((x, instObj 449 dx) :: (dx, dictOf [] 0) :: news) := g1.toLo.trans (Gr.cons (R := fun _ => False)).toLo
  generalize (x, instObj 449 dx) :: (dx, dictOf [] 0) :: news = news0 at hi m0 gC N1
  k_dflt (refine' ks_code_super ?k1 ?k2 ?k3 ?k4 ?k5 ?kA ?kF ?kK ?k6 ?k7 ?k8 ?k9 ?kB ?_ ?c1 ?c2 ?c3 ?c4; (case kA => exact rfl); (case kF => exact rfl); (case kK => assumption); (case k1 => k_asm); (case k2 => k_asm); (case k3 => k_asm); (case k4 => k_asm); (case k5 => k_asm); (case k6 => k_is); (case k7 => k_is); (case k8 => ktr_room); (case k9 => exact BindsTo.of_eq rfl); (case kB => exact locs rfl); (case c1 => decide); (case c2 => exact rfl); (case c3 => exact rfl); (case c4 => exact rfl); intro g' L' h' FG' F' N' B' X' T' l1; (try k_lt l1); (try dsimp only); (try k_lift B'))
  walk1
  refine ks_wpAt_Expr_any ?_
  refine ks_wpAt_MethodCall ?_
  k_dflt (refine' ks_node ?s1 ?s2 ?s3 ?s4 ?s5 ?s6 ?s7 ?s8 ?s9 ?s10 ?s11 ?s12 ?s13 ?s14 ?s15 ?s16 ?s17 ?s18 ?s19 ?s20 ?s21 ?s22 ?_; (case s1 => k_asm); (case s2 => k_asm); (case s3 => k_asm); (case s4 => k_asm); (case s5 => k_is); (case s6 => rfl); (case s7 => rfl); (case s8 => k_inst); (case s9 => k_is); (case s10 => rfl); (case s11 => first | rfl | decide +kernel); (case s12 => k_is); (case s13 => k_is); (case s14 => k_is); (case s15 => k_is); (case s16 => decide); (case s17 => rfl); (case s18 => rfl); (case s19 => rfl); (case s20 => rfl); (case s21 => decide +kernel); (case s22 => first | boot_by_name | rfl | kernel_rfl); intro so' h' F' N' l1; (try k_lt l1))
  walk_at "S"
  try k_fold
  k_dflt (refine' Ctr.useM (heap_init o ho x dx) ?q ?B ?F ?X ?N ?T ?k ?pre ?d ?u ?_)
  (case d => rw [depth_under_make]; show dp + 1 + 1 + 4 < recursionLimit; omega)
  (case u => rw [units_under_make]; show un + 1 + 3 + 200 < cLine; omega)
  (case B => k_asm); (case F => k_asm); (case X => k_asm); (case N => k_asm); (case T => k_asm); (case k => first | exact rfl | assumption)
  (case q => k_mem)
  (case pre => exact ⟨by k_mem, by k_mem, rd⟩)
  intro r2 news2 reg2 h2' tk2 F2 N2 hp9; refine bc fun z9 => ?_
  refine el3 hp9 fun hq1 hq2 g2 => ?_; try clear hp9
  obtain rfl := hq1
  obtain ⟨A, hA, z⟩ := hq2
  refine z9 ?_; clear z9; try k_unmd
  try k_sweep
  try dsimp only
  try k_fold
  subst hA
  have hlow0 : ∀ p ∈ news, p.1 < A.xd := l1
  replace gC : Lo A.xd reg news reg2 news2 := gC.trans (((Gr.sub (R := fun _ => False) (by intro p hp; repeat (first | exact hp | refine List.mem_cons_of_mem _ ?_)))).toLo.trans g2)
  replace hi := z.inst
  have m2 := z.dict
  replace rd := z.three
  repeat' (first | ((try k_unmd); k_unfold; (try dsimp only)) | ((try dsimp only); (fail_if_success (with_reducible (first | show wpAny _ _ (setAttr _ _ _) _ _ _ | show wpAny _ _ (call _ _ _) _ _ _))); walk1) | (leave1; try dsimp only))
  rename_i a8 hh8 FF8 NN8 lt8
  refine bc fun z9 => ?_
  obtain ⟨reg8, g8, r8⟩ := Gr.fresh (R := fun _ => False) (reg := reg2) (k := o + 15) (o := lisO [] 0) lt8
  refine z9 ?_; clear z9; try k_unmd
  replace hi := g8.inst hi
  replace rd := (g8.regs _ m2).trans rd
  replace m2 := List.mem_cons_of_mem (a8, lisO [] 0) m2
  refine' sattr_N (r := 3) (reg := reg8) ?F ?X ?N hi m2 rd ?hs ?hp ?ht ?hh ?hl ?e ?hz ?_
  (case F => k_asm); (case X => k_asm); (case N => k_asm); (case hs => k_is); (case hp => k_is); (case ht => k_is); (case hh => k_is); (case hl => k_get); (case e => k_put); (case hz => exact Nat.le_of_ble_eq_true rfl)
  intro hp8 news8 Fp8 Np8 p8 m8
  k_sweep
  have q8 := (g8.no (R := fun k => k = 3)).trans p8.toGr
  replace gC := gC.trans (g8.toLo.trans p8.toLo)
  have e8 := p8.both (.head _) r8 (by walk_at "NR")
  replace hi := p8.inst hi
  walk_at "S"
  have gF : Gr (fun _ => False) reg news (fun a => if a = A.xd then 1 else reg8 a) news8 := (gC.gr hlow0).rereg hlow0
  have gw := gw_rename (news := news8) (D := A.xd) (k := 1) rd
  refine hret (.ref x) news8 (fun a => if a = A.xd then 1 else reg8 a) _ _ (by k_asm) (by k_asm) ⟨x, rfl, ?_, gF⟩
  replace e8 := gw.both e8.1 e8.2 (by walk_at "NR")
  have gz : Gw (fun j => j = 3) reg2 news2 (fun a => if a = A.xd then 1 else reg8 a) news8 := ⟨fun p hp n => q8.keep p hp n, q8.fixed, fun p hp n => by
    by_cases e : p.1 = A.xd
    · exact absurd (by rw [e]; exact z.three) n
    · simp only [if_neg e]; exact q8.rg p hp n⟩
  exact ⟨⟨A.xd, A.bb, A.uu, A.le, A.lf, A.dk, A.da, A.lw, a8, A.t1, A.t2, A.t3, A.t4, A.t5, A.t6, A.t7, _⟩, ⟨hi, m8, if_pos rfl⟩, z.bank.gr gz (by walk_at "NR") (by walk_at "NR") (by walk_at "NA"), z.uni.gr gz (by walk_at "NR") (by walk_at "NA"), z.edges.gr gz (by walk_at "NR"), ⟨0, z.forest.gr gz (by walk_at "NR"), Nat.le_refl _⟩, z.known.gr gz (by walk_at "NR"), z.above.gr gz (by walk_at "NR") (by walk_at "NR"), z.wait.gr gz (by walk_at "NR"), ⟨[], _, e8.1, e8.2, .nil⟩⟩
end
section
variable {w : World} {mean : ExcName → Option Value} {mg mb : Str → Option Value}
noncomputable def Hs.wsettle (S : Hs) : Hs := if S.wait = [] then S else ({ S with rows := S.rows ++ [Row.settle] } : Hs).settle
theorem w_settle (o : Nat) (ho : 15 ≤ o) (x : Addr) (S : Hs) (W : Whs S) : Ctr w mean mg mb 446 7 280 [.ref x]
   (fun news reg => HeapR w news reg o x S ∧ S.rows.length + 1 ≤ 1000000)
   (fun news reg r news' reg' => r = .none ∧ HeapR w news' reg' o x S.wsettle ∧ Gr (RS o allH) reg news reg' news') := by
  unfold Ctr
  k_fill
  intro dp un gd cn cs a₀ ccd cl outer A₀ base h₀ L m news reg s Q E B F X N T hk hpre hdp hun hret
  obtain ⟨hH, hrows⟩ := hpre
  have hfit := W.fits (by omega)
  obtain ⟨A, z⟩ := id hH
  have h1 := z.obj.inst
  have h2 := z.obj.dict
  have h3 := z.obj.one
  refine bc fun z9 => ?_
  refine ex2 z.rows fun vr cr h9 => ?_; refine el3 h9 fun e1 e2 e3 => ?_; clear h9
  refine z9 ?_; clear z9; try k_unmd
  by_cases hw : S.wait = []
  · have hE : S.wait.isEmpty = true := by rw [hw]; rfl
    k_dflt (refine' ks_code_super ?k1 ?k2 ?k3 ?k4 ?k5 ?kA ?kF ?kK ?k6 ?k7 ?k8 ?k9 ?kB ?_ ?c1 ?c2 ?c3 ?c4; (case kA => exact rfl); (case kF => exact rfl); (case kK => assumption); (case k1 => k_asm); (case k2 => k_asm); (case k3 => k_asm); (case k4 => k_asm); (case k5 => k_asm); (case k6 => k_is); (case k7 => k_is); (case k8 => ktr_room); (case k9 => exact BindsTo.of_eq rfl); (case kB => exact locs rfl); (case c1 => decide); (case c2 => exact rfl); (case c3 => exact rfl); (case c4 => exact rfl); intro g' L' h' FG' F' N' B' X' T' l1; (try k_lt l1); (try dsimp only); (try k_lift B'))
    walk_at "S"
    try k_fold
    k_dflt (refine' RCtr.use (heap_settled o x S) ?B ?F ?X ?N ?T ?k ?pre ?d ?u ?_)
    (case B | F | X | N | T => k_asm); (case k => first | exact rfl | assumption); (case d | u => walk_at "ROOM")
    (case pre => exact ⟨hH, by have := hfit.wait; omega⟩)
    intro r' h' tk' F' N' hp'; (try k_sweep); (first | (obtain ⟨t', e'⟩ := hp'; subst e') | (have e' := hp'; subst e')); (try dsimp only); (try k_fold)
    rw [hE]
    repeat' (first | ((try k_unmd); k_unfold; (try dsimp only)) | ((try dsimp only); (fail_if_success (with_reducible show _root_.PySem.wpAt _ _ _ _ _ _ _)); walk1))
    walk1
    repeat' (first | ((try k_unmd); k_unfold; (try dsimp only)) | ((try dsimp only); (fail_if_success (with_reducible show _root_.PySem.wpAt _ _ _ _ _ _ _)); walk1))
    try dsimp only
    walk1
    refine ks_wpAt_Expr_any ?_
    refine ks_wpAt_MethodCall ?_
    k_dflt (refine' ks_node ?s1 ?s2 ?s3 ?s4 ?s5 ?s6 ?s7 ?s8 ?s9 ?s10 ?s11 ?s12 ?s13 ?s14 ?s15 ?s16 ?s17 ?s18 ?s19 ?s20 ?s21 ?s22 ?_; (case s1 => k_asm); (case s2 => k_asm); (case s3 => k_asm); (case s4 => k_asm); (case s5 => k_is); (case s6 => rfl); (case s7 => rfl); (case s8 => k_inst); (case s9 => k_is); (case s10 => rfl); (case s11 => first | rfl | decide +kernel); (case s12 => k_is); (case s13 => k_is); (case s14 => k_is); (case s15 => k_is); (case s16 => decide); (case s17 => rfl); (case s18 => rfl); (case s19 => rfl); (case s20 => rfl); (case s21 => decide +kernel); (case s22 => first | boot_by_name | rfl | kernel_rfl); intro so' h' F' N' l1; (try k_lt l1))
    walk_at "S"
    try k_fold
    k_dflt (refine' Ctr.useM (heap_settle o x S W) ?q ?B ?F ?X ?N ?T ?k ?pre ?d ?u ?_)
    (case B | F | X | N | T => k_asm); (case k => first | exact rfl | assumption); (case d | u => walk_at "ROOM")
    (case q => k_mem)
    (case pre => exact ⟨hH.gr (Gr.sub (R := fun _ => False) (by intro p hp; repeat (first | exact hp | refine List.mem_cons_of_mem _ ?_))).toGw id id off_no, by omega⟩)
    intro r2 news2 reg2 h2' tk2 F2 N2 hp9; refine bc fun z9 => ?_
    refine el3 hp9 fun hq1 hH2 g2 => ?_; try clear hp9
    obtain rfl := hq1
    refine z9 ?_; clear z9; try k_unmd
    try k_sweep
    try dsimp only
    try k_fold
    walk_at "S"
    refine hret _ news2 reg2 _ _ (by k_asm) (by k_asm) ⟨rfl, ?_, (Gr.sub (R := fun _ => False) (by intro p hp; repeat (first | exact hp | refine List.mem_cons_of_mem _ ?_))).no.trans (g2.up rfl)⟩
    unfold Hs.wsettle
    rw [if_pos hw]
    unfold Hs.settle at hH2
    rw [settleN_nil hw] at hH2
    exact hH2
  · have hE : S.wait.isEmpty = false := by cases q : S.wait <;> simp_all
    k_dflt (refine' ks_code_super ?k1 ?k2 ?k3 ?k4 ?k5 ?kA ?kF ?kK ?k6 ?k7 ?k8 ?k9 ?kB ?_ ?c1 ?c2 ?c3 ?c4; (case kA => exact rfl); (case kF => exact rfl); (case kK => assumption); (case k1 => k_asm); (case k2 => k_asm); (case k3 => k_asm); (case k4 => k_asm); (case k5 => k_asm); (case k6 => k_is); (case k7 => k_is); (case k8 => ktr_room); (case k9 => exact BindsTo.of_eq rfl); (case kB => exact locs rfl); (case c1 => decide); (case c2 => exact rfl); (case c3 => exact rfl); (case c4 => exact rfl); intro g' L' h' FG' F' N' B' X' T' l1; (try k_lt l1); (try dsimp only); (try k_lift B'))
    walk_at "S"
    try k_fold
    k_dflt (refine' RCtr.use (heap_settled o x S) ?B ?F ?X ?N ?T ?k ?pre ?d ?u ?_)
    (case B | F | X | N | T => k_asm); (case k => first | exact rfl | assumption); (case d | u => walk_at "ROOM")
    (case pre => exact ⟨hH, by have := hfit.wait; omega⟩)
    intro r' h' tk' F' N' hp'; (try k_sweep); (first | (obtain ⟨t', e'⟩ := hp'; subst e') | (have e' := hp'; subst e')); (try dsimp only); (try k_fold)
    rw [hE]
    walk_at "S"
    have hvr : vr.length = S.rows.length := by have := e3.length; simpa using this
    refine append_N (r := o + 15) (reg := reg) (by k_asm) (by k_asm) (.tail _ e1) e2 (by rw [sizeLine_eq, hvr]; omega) fun h9 news9 F9 N9 g9 m9 => ?_
    k_sweep
    have gB : Gr (fun k => k = o + 15) reg news reg news9 := Gr.cons.trans g9.toGr
    have e2' := g9.reg' (.tail _ e1) e2
    have hT := g9.tup (.head _)
    refine bc fun z9 => ?_
    refine ex1 z.forest fun nf h9 => ?_; refine el2 h9 fun hf1 hf2 => ?_; clear h9
    refine z9 ?_; clear z9; try k_unmd
    have hH9 : HeapR w news9 reg o x ({ S with rows := S.rows ++ [Row.settle] } : Hs) := ⟨A, z.obj.gr gB.toGw (by walk_at "NR"), z.bank.gr gB.toGw (by walk_at "NR") (by walk_at "NR") (by walk_at "NA"), z.uni.gr gB.toGw (by walk_at "NR") (by walk_at "NA"), z.edges.gr gB.toGw (by walk_at "NR"), ⟨nf, hf1.gr gB.toGw (by walk_at "NR"), hf2⟩, z.known.gr gB.toGw (by walk_at "NR"), z.above.gr gB.toGw (by walk_at "NR") (by walk_at "NR"), z.wait.gr gB.toGw (by walk_at "NR"), ⟨_, _, m9, e2', by
      dsimp only
      rw [List.map_append]
      exact (e3.gr gB.toGw (by walk_at "NR")).append (.cons (.tuple hT (.cons (.str _ _) .nil)) .nil)⟩⟩
    replace h1 := gB.inst h1
    replace h2 := gB.at h2 h3 (by walk_at "NR")
    have W9 : Whs ({ S with rows := S.rows ++ [Row.settle] } : Hs) := W.rows_more (by simp)
    repeat' (first | ((try k_unmd); k_unfold; (try dsimp only)) | ((try dsimp only); (fail_if_success (with_reducible show _root_.PySem.wpAt _ _ _ _ _ _ _)); walk1))
    walk1
    repeat' (first | ((try k_unmd); k_unfold; (try dsimp only)) | ((try dsimp only); (fail_if_success (with_reducible show _root_.PySem.wpAt _ _ _ _ _ _ _)); walk1))
    try dsimp only
    walk1
    refine ks_wpAt_Expr_any ?_
    refine ks_wpAt_MethodCall ?_
    k_dflt (refine' ks_node ?s1 ?s2 ?s3 ?s4 ?s5 ?s6 ?s7 ?s8 ?s9 ?s10 ?s11 ?s12 ?s13 ?s14 ?s15 ?s16 ?s17 ?s18 ?s19 ?s20 ?s21 ?s22 ?_; (case s1 => k_asm); (case s2 => k_asm); (case s3 => k_asm); (case s4 => k_asm); (case s5 => k_is); (case s6 => rfl); (case s7 => rfl); (case s8 => k_inst); (case s9 => k_is); (case s10 => rfl); (case s11 => first | rfl | decide +kernel); (case s12 => k_is); (case s13 => k_is); (case s14 => k_is); (case s15 => k_is); (case s16 => decide); (case s17 => rfl); (case s18 => rfl); (case s19 => rfl); (case s20 => rfl); (case s21 => decide +kernel); (case s22 => first | boot_by_name | rfl | kernel_rfl); intro so' h' F' N' l1; (try k_lt l1))
    walk_at "S"
    try k_fold
    k_dflt (refine' Ctr.useM (heap_settle o x _ W9) ?q ?B ?F ?X ?N ?T ?k ?pre ?d ?u ?_)
    (case B | F | X | N | T => k_asm); (case k => first | exact rfl | assumption); (case d | u => walk_at "ROOM")
    (case q => k_mem)
    (case pre => exact ⟨hH9.gr (Gr.sub (R := fun _ => False) (by intro p hp; repeat (first | exact hp | refine List.mem_cons_of_mem _ ?_))).toGw id id off_no, by simp; omega⟩)
    intro r2 news2 reg2 h2' tk2 F2 N2 hp9; refine bc fun z9 => ?_
    refine el3 hp9 fun hq2 hH2 g2 => ?_; try clear hp9
    obtain rfl := hq2
    refine z9 ?_; clear z9; try k_unmd
    try k_sweep
    try dsimp only
    try k_fold
    walk_at "S"
    refine hret _ news2 reg2 _ _ (by k_asm) (by k_asm) ⟨rfl, ?_, (gB.rs rfl).trans ((Gr.sub (R := fun _ => False) (by intro p hp; repeat (first | exact hp | refine List.mem_cons_of_mem _ ?_))).no.trans (g2.up rfl))⟩
    unfold Hs.wsettle
    rw [if_neg hw]
    exact hH2
end
section
variable {w : World} {mean : ExcName → Option Value} {mg mb : Str → Option Value}
section
variable {A : Around} {E : Value → Shared → Prop} {s : Shared} {h₀ : Heap} {L : Addr} {m : Str → Option Value} {news : Led}
theorem tlen_N {t : Addr} {vs : List Value} {c n : Nat} {Q : Value → Shared → Prop} (N : News h₀ L s.heap news) (hm : (t, tupO vs c) ∈ news) (hn : vs.length = n) (hz : n < 2 ^ 62) (h : ∀ t tk, Q (.int (n : Int) t) { s with toks := tk }) :
    wpAny (model PG w) A (call (.builtin "len") [.ref t]) Q E s := by
  refine len_tuple (items := vs.toArray) ⟨_, N.get hm, rfl, c, rfl⟩ (by simp; omega) ?_
  have e : ((vs.toArray.size : Nat) : Int) = (n : Int) := by simp [hn]
  rw [e]
  exact h _ _
end
theorem mx2 {a b : Str} {k1 k2 v1 v2 : Option Value} {m0 : Str → Option Value} : (fun y => if y = b then v2 else if y = a then v1 else mx b k2 (mx a k1 m0) y) = mx b v2 (mx a v1 m0) := by
  funext y
  show (if y = b then v2 else if y = a then v1 else if y = b then k2 else if y = a then k1 else m0 y) = if y = b then v2 else if y = a then v1 else m0 y
  by_cases h1 : y = b
  · rw [if_pos h1, if_pos h1]
  · rw [if_neg h1, if_neg h1, if_neg h1]
    by_cases h2 : y = a
    · rw [if_pos h2, if_pos h2]
    · rw [if_neg h2, if_neg h2, if_neg h2]
noncomputable def isVar (y : Str) : Bool := Txt.slice y none (some 1) == Str.ofString "?"
theorem is_var_ctr (ta : Addr) (c : Nat) (y : Str) : RCtr w mean mg mb 74 1 40 [.ref ta] (fun news reg => (∃ t, (ta, tupO [.str y t] c) ∈ news) ∧ y.length ≤ sizeLine) (fun r => r = .bool (isVar y)) := by
  unfold RCtr
  k_fill
  intro dp un gd cn cs a₀ ccd cl outer A₀ base h₀ L m news reg s Q E B F X N T hk hpre hdp hun hret
  refine bc fun z9 => ?_
  obtain ⟨⟨t, hm⟩, hy⟩ := hpre
  refine z9 ?_; clear z9; try k_unmd
  k_dflt ktr_enter
  refine' (let AA := _; let EE := _; let TT : Nat := _; (?_ : wpAny _ AA _ _ EE ⟨_, _, _, TT, _⟩))
  with_reducible rename Fr _ _ _ _ => kF
  refine' (let mm : Str → Option Value := _; (fun (kF : Fr _ _ _ mm) => ?_) kF); try k_unmd
  walk_at "NM"
  walk_at "S"
  refine tlen_N (n := 1) (by k_asm) hm rfl (by omega) fun tk1 tk2 => ?_
  walk_at "S"
  exact hret _ _ _ (by k_asm) (by k_asm) rfl
noncomputable def Rs (r : Rsn) (lab : Str) : PyData := match r with
  | .told => .tuple [sD "told", .str lab]
  | .rule x y => .tuple [sD "rule", .str lab, .tuple [.tuple [sD "?x", natD x], .tuple [sD "?y", natD y]]]
noncomputable def Rsn.below (n : Nat) : Rsn → Prop
  | .told => True
  | .rule x y => x < n ∧ y < n
theorem inv_told {news : Led} {reg : Reg} {ra : Addr} {lab : Str} (hd : DT news reg (.ref ra) (.tuple [sD "told", .str lab])) {P : Prop} (k : ∀ c t1 t2, (ra, tupO [.str (Str.ofString "told") t1, .str lab t2] c) ∈ news → P) : P := by
  cases hd with | tuple hm hds => ?_
  cases hds with | cons a1 r1 => ?_
  cases r1 with | cons a2 r2 => ?_
  cases a1
  cases a2
  cases r2
  exact k _ _ _ hm
theorem inv_pair {news : Led} {reg : Reg} {v : Value} {y : Str} {n : Nat} (hd : DT news reg v (.tuple [.str y, natD n])) {P : Prop} (k : ∀ a c t1 t2, v = .ref a → (a, tupO [.str y t1, .int n t2] c) ∈ news → P) : P := by
  cases hd with | tuple hm hds => ?_
  cases hds with | cons a1 r1 => ?_
  cases r1 with | cons a2 r2 => ?_
  cases a1
  cases a2
  cases r2
  exact k _ _ _ _ rfl hm
theorem inv_rule {news : Led} {reg : Reg} {ra : Addr} {x y : Nat} (hd : DT news reg (.ref ra) (Rsn.rule x y).dat) {P : Prop} (k : ∀ c t1 t2 a3 c3 a4 a5 c4 c5 u1 u2 u3 u4, (ra, tupO [.str (Str.ofString "rule") t1, .str (Str.ofString "r") t2, .ref a3] c) ∈ news → (a3, tupO [.ref a4, .ref a5] c3) ∈ news → (a4, tupO [.str (Str.ofString "?x") u1, .int x u2] c4) ∈ news → (a5, tupO [.str (Str.ofString "?y") u3, .int y u4] c5) ∈ news → P) : P := by
  cases hd with | tuple hm hds => ?_
  cases hds with | cons a1 r1 => ?_
  cases r1 with | cons a2 r2 => ?_
  cases r2 with | cons a3 r3 => ?_
  cases a1
  cases a2
  cases r3
  cases a3 with | tuple m3 q3 => ?_
  cases q3 with | cons p1 q4 => ?_
  cases q4 with | cons p2 q5 => ?_
  cases q5
  refine inv_pair p1 fun a4 c4 u1 u2 e4 m4 => ?_
  subst e4
  refine inv_pair p2 fun a5 c5 u3 u4 e5 m5 => ?_
  subst e5
  exact k _ _ _ _ _ _ _ _ _ _ _ _ _ hm m3 m4 m5
theorem check_told (ra : Addr) (lab : Str) (many : Nat) (t : Tok) (hl : lab.cps.size ≤ 10 ∧ lab ≠ Str.ofString "" ∧ ∀ c ∈ lab.cps.toList, c < 128) (ho : isOp lab = true) : RCtr w mean mg mb 406 2 240 [.ref ra, .int many t] (fun news reg => DT news reg (.ref ra) (.tuple [sD "told", .str lab])) (fun v => v = .none) := by
  unfold RCtr
  k_fill
  intro dp un gd cn cs a₀ ccd cl outer A₀ base h₀ L m news reg s Q E B F X N T hk hpre hdp hun hret
  refine inv_told hpre fun c t1 t2 hm => ?_
  k_dflt ktr_enter
  refine' (let AA := _; let EE := _; let TT : Nat := _; (?_ : wpAny _ AA _ _ EE ⟨_, _, _, TT, _⟩))
  with_reducible rename Fr _ _ _ _ => kF
  refine' (let mm : Str → Option Value := _; (fun (kF : Fr _ _ _ mm) => ?_) kF); try k_unmd
  walk_at "NM"
  walk_at "S"
  try k_fold
  k_dflt (refine' RCtr.use (reg := fun _ => 0) (is_op_ctr lab _) ?B ?F ?X ?N ?T ?k ?pre ?d ?u ?_)
  (case B | F | X | N | T => k_asm); (case k => first | exact rfl | assumption); (case d | u => walk_at "ROOM")
  (case pre => exact hl)
  intro r' h' tk' F' N' hp'; (try k_sweep); (first | (obtain ⟨t', e'⟩ := hp'; subst e') | (have e' := hp'; subst e')); (try dsimp only); (try k_fold)
  rw [ho]
  walk_at "S"
  rename_i D9 h9 F9 N9 l9
  refine' iter_tup_pair (vs := []) (c := 0) (reg := reg) (fun i m₁ news₁ reg₁ => Gr (fun _ => False) reg ((D9, tupO [] 0) :: news) reg₁ news₁) ?hh ?F ?N ?J ?hat ?mono ?turn ?done ?hE ?ht
  (case hh => rfl); (case F => k_asm); (case N => k_asm); (case J => exact Gr.refl)
  (case hat => exact fun i m news reg h => h.keep _ (.head _) id)
  (case mono => exact fun b i m₁ news₁ reg₁ news' reg' hb h _ l => h.lo hb l)
  (case turn => intro i v m₁ news₁ reg₁ h tk hv; simp at hv)
  (case hE => passes_own)
  (case ht => exact rfl)
  case done =>
    intro m₁ news₁ reg₁ h tk hJ F1 N1
    refine' (let mm : Str → Option Value := _; (fun (F1 : Fr _ _ _ mm) => ?_) F1); try k_unmd
    walk_at "S"
    exact hret _ _ _ (by k_asm) (fun p hp => by rename News _ _ _ _ => N5; exact N5 p (hJ.keep _ (.tail _ hp) id)) rfl
theorem check_ok (ra : Addr) (r : Rsn) (many : Nat) (t : Tok) : RCtr w mean mg mb 406 2 240 [.ref ra, .int many t] (fun news reg => DT news reg (.ref ra) r.dat ∧ r.below many) (fun v => v = .none) := by
  unfold RCtr
  k_fill
  intro dp un gd cn cs a₀ ccd cl outer A₀ base h₀ L m news reg s Q E B F X N T hk hpre hdp hun hret
  obtain ⟨hd, hb⟩ := hpre
  cases r with
  | told => exact check_told ra (Str.ofString "t1") many t ⟨by decide +kernel, by decide +kernel, by decide +kernel⟩ (by kernel_rfl) dp un gd cn cs a₀ ccd cl outer A₀ base h₀ L m news reg s Q E B F X N T hk hd hdp hun hret
  | rule x y =>
    refine inv_rule hd fun c t1 t2 a3 c3 a4 a5 c4 c5 u1 u2 u3 u4 hm m3 m4 m5 => ?_
    k_dflt ktr_enter
    refine' (let AA := _; let EE := _; let TT : Nat := _; (?_ : wpAny _ AA _ _ EE ⟨_, _, _, TT, _⟩))
    with_reducible rename Fr _ _ _ _ => kF
    refine' (let mm : Str → Option Value := _; (fun (kF : Fr _ _ _ mm) => ?_) kF); try k_unmd
    walk_at "NM"
    walk_at "S"
    try k_fold
    k_dflt (refine' RCtr.use (reg := fun _ => 0) (is_op_ctr (Str.ofString "r") _) ?B ?F ?X ?N ?T ?k ?pre ?d ?u ?_)
    (case B | F | X | N | T => k_asm); (case k => first | exact rfl | assumption); (case d | u => walk_at "ROOM")
    (case pre => exact ⟨by decide +kernel, by decide +kernel, by decide +kernel⟩)
    intro r' h' tk' F' N' hp'; (try k_sweep); (first | (obtain ⟨t', e'⟩ := hp'; subst e') | (have e' := hp'; subst e')); (try dsimp only); (try k_fold)
    rw [show isOp (Str.ofString "r") = true by kernel_rfl]
    walk_at "S"
    refine' iter_tup_pair (m := ?m0) (reg := reg) (fun i m₁ news₁ reg₁ => Gr (fun _ => False) reg news reg₁ news₁ ∧ ∃ k1 k2, m₁ = mx ("n" : Str) k2 (mx ("name" : Str) k1 ?m0)) ?hh ?F ?N ?J ?hat ?mono ?turn ?done ?hE ?ht
    (case hh => rfl); (case F => k_asm); (case N => k_asm); (case J => exact ⟨Gr.refl, _, _, by rw [← mx_self, ← mx_self]⟩)
    (case hat => exact fun i m news reg h => h.1.keep _ m3 id)
    (case mono => exact fun b i m₁ news₁ reg₁ news' reg' hb h _ l => ⟨h.1.lo hb l, h.2⟩)
    (case hE => passes_own)
    (case ht => exact rfl)
    case turn =>
      intro i v m₁ news₁ reg₁ h tk hv hp9 F1 N1
      refine bc fun z9 => ?_
      first | refine el4 hp9 fun g k1 k2 hq1 => ?_ | (refine ex1 hp9 fun g h9 => ?_; refine el3 h9 fun k1 k2 hq1 => ?_; clear h9) | (refine ex2 hp9 fun g k1 h9 => ?_; refine el2 h9 fun k2 hq1 => ?_; clear h9) | refine ex3 hp9 fun g k1 k2 hq1 => ?_ | obtain ⟨g, k1, k2, hq1⟩ := hp9; try clear hp9
      obtain rfl := hq1
      refine z9 ?_; clear z9; try k_unmd
      refine' (let mm : Str → Option Value := _; (fun (F1 : Fr _ _ _ mm) => ?_) F1); try k_unmd
      have hx : ∃ (nm : Str) (n : Nat) (T : Addr) (cc : Nat) (tn tt : Tok), v = .ref T ∧ (T, tupO [.str nm tn, .int n tt] cc) ∈ news₁ ∧ isVar nm = true ∧ isOp nm = true ∧ nm.length ≤ sizeLine ∧ (nm.cps.size ≤ 10 ∧ nm ≠ Str.ofString "" ∧ ∀ c ∈ nm.cps.toList, c < 128) ∧ n < many := by
        rcases i with _ | _ | i
        · exact ⟨Str.ofString "?x", x, _, _, _, _, (Option.some.inj hv).symm, g.keep _ m4 id, by kernel_rfl, by kernel_rfl, by decide +kernel, ⟨by decide +kernel, by decide +kernel, by decide +kernel⟩, hb.1⟩
        · exact ⟨Str.ofString "?y", y, _, _, _, _, (Option.some.inj hv).symm, g.keep _ m5 id, by kernel_rfl, by kernel_rfl, by decide +kernel, ⟨by decide +kernel, by decide +kernel, by decide +kernel⟩, hb.2⟩
        · simp at hv
      refine bc fun z9 => ?_
      obtain ⟨nm, n, T, cc, tn, tt, rfl, hT, hv1, ho1, hs1, hp1, hn⟩ := hx
      refine z9 ?_; clear z9; try k_unmd
      walk_at "S"
      rename_i T6 h6 F6 N6 l6
      try k_fold
      k_dflt (refine' RCtr.use (reg := fun _ => 0) (is_var_ctr T6 0 nm) ?B ?F ?X ?N ?T ?k ?pre ?d ?u ?_)
      (case B | F | X | N | T => k_asm); (case k => first | exact rfl | assumption); (case d | u => walk_at "ROOM")
      (case pre => exact ⟨⟨_, .head _⟩, hs1⟩)
      intro r' h' tk' F' N' hp'; (try k_sweep); (first | (obtain ⟨t', e'⟩ := hp'; subst e') | (have e' := hp'; subst e')); (try dsimp only); (try k_fold)
      rw [hv1]
      walk_at "S"
      try k_fold
      k_dflt (refine' RCtr.use (reg := fun _ => 0) (is_op_ctr nm _) ?B ?F ?X ?N ?T ?k ?pre ?d ?u ?_)
      (case B | F | X | N | T => k_asm); (case k => first | exact rfl | assumption); (case d | u => walk_at "ROOM")
      (case pre => exact hp1)
      intro r' h' tk' F' N' hp'; (try k_sweep); (first | (obtain ⟨t', e'⟩ := hp'; subst e') | (have e' := hp'; subst e')); (try dsimp only); (try k_fold)
      rw [ho1]
      walk_at "S"
      refine TurnEnd.mk (reg₂ := reg₁) (fun _ => False) (by k_asm) (by k_asm) (id) (Gr.cons) ⟨g.trans Gr.cons, _, _, mx2⟩
    case done =>
      intro m₁ news₁ reg₁ h tk hp9 F1 N1
      refine bc fun z9 => ?_
      first | refine el4 hp9 fun g k1 k2 hq2 => ?_ | (refine ex1 hp9 fun g h9 => ?_; refine el3 h9 fun k1 k2 hq2 => ?_; clear h9) | (refine ex2 hp9 fun g k1 h9 => ?_; refine el2 h9 fun k2 hq2 => ?_; clear h9) | refine ex3 hp9 fun g k1 k2 hq2 => ?_ | obtain ⟨g, k1, k2, hq2⟩ := hp9; try clear hp9
      obtain rfl := hq2
      refine z9 ?_; clear z9; try k_unmd
      refine' (let mm : Str → Option Value := _; (fun (F1 : Fr _ _ _ mm) => ?_) F1); try k_unmd
      walk_at "S"
      exact hret _ _ _ (by k_asm) (fun p hp => by rename News _ _ _ _ => N5; exact N5 p (g.keep _ hp id)) rfl
end
section
variable {w : World} {mean : ExcName → Option Value} {mg mb : Str → Option Value}
theorem heap_merge (o : Nat) (x : Addr) (S : Hs) (a b : Nat) (ta tb : Tok) (rv : Value) (W : Whs S) : Ctr w mean mg mb 331 4 160 [.ref x, .int a ta, .int b tb, rv]
   (fun news reg => HeapR w news reg o x S ∧ a < S.up.length ∧ b < S.up.length ∧ S.rows.length ≤ 1000000)
   (fun news reg r news' reg' => r = .bool (decide (root S.up a ≠ root S.up b)) ∧ HeapR w news' reg' o x (S.join a b) ∧ Gr (RS o [5, 6, 7, 8, 9, 10, 12, 13, 14]) reg news reg' news') := by
  unfold Ctr
  k_fill
  intro dp un gd cn cs a₀ ccd cl outer A₀ base h₀ L m news reg s Q E B F X N T hk hpre hdp hun hret
  refine bc fun z9 => ?_
  refine el4 hpre fun hH ha hb hr => ?_; try clear hpre
  obtain ⟨A, z⟩ := id hH
  refine z9 ?_; clear z9; try k_unmd
  have h1 := z.obj.inst
  have h2 := z.obj.dict
  clear z
  k_dflt ktr_enter
  refine' (let AA := _; let EE := _; let TT : Nat := _; (?_ : wpAny _ AA _ _ EE ⟨_, _, _, TT, _⟩))
  with_reducible rename Fr _ _ _ _ => kF
  refine' (let mm : Str → Option Value := _; (fun (kF : Fr _ _ _ mm) => ?_) kF); try k_unmd
  walk_at "NM"
  walk_at "S"
  try k_fold
  k_dflt (refine' Ctr.use (heap_join o x S a b _ _ rv W) ?B ?F ?X ?N ?T ?k ?pre ?d ?u ?_)
  (case B | F | X | N | T => k_asm); (case k => first | exact rfl | assumption); (case d | u => walk_at "ROOM")
  (case pre => exact ⟨hH, ha, hb, hr⟩)
  intro r2 news2 reg2 h2' tk2 F2 N2 hp9; refine bc fun z9 => ?_
  refine el3 hp9 fun hq1 hH2 g2 => ?_; try clear hp9
  obtain rfl := hq1
  refine z9 ?_; clear z9; try k_unmd
  try k_sweep
  try dsimp only
  try k_fold
  walk_at "S"
  exact hret _ news2 reg2 _ _ (by k_asm) (by k_asm) ⟨rfl, hH2, g2⟩
noncomputable def Hs.wmerge (S : Hs) (a b : Nat) (r : Rsn) : Hs := ({ S with rows := S.rows ++ [Row.same a b r] } : Hs).join a b
theorem w_merge (o : Nat) (ho : 15 ≤ o) (x : Addr) (S : Hs) (a b : Nat) (r : Rsn) (ta tb : Tok) (ra : Addr) (W : Whs S) : Ctr w mean mg mb 438 8 400 [.ref x, .int a ta, .int b tb, .ref ra]
   (fun news reg => HeapR w news reg o x S ∧ DT news reg (.ref ra) r.dat ∧ a < S.up.length ∧ b < S.up.length ∧ r.below S.up.length ∧ S.rows.length + 1 ≤ 1000000)
   (fun news reg v news' reg' => v = .bool (decide (root S.up a ≠ root S.up b)) ∧ HeapR w news' reg' o x (S.wmerge a b r) ∧ Gr (RS o allH) reg news reg' news') := by
  unfold Ctr
  k_fill
  intro dp un gd cn cs a₀ ccd cl outer A₀ base h₀ L m news reg s Q E B F X N T hk hpre hdp hun hret
  refine bc fun z9 => ?_
  refine el6 hpre fun hH hd ha hb hr hrows => ?_; try clear hpre
  obtain ⟨A, z⟩ := id hH
  refine z9 ?_; clear z9; try k_unmd
  have h1 := z.obj.inst
  have h2 := z.obj.dict
  have h3 := z.obj.one
  refine bc fun z9 => ?_
  refine ex2 z.rows fun vr cr h9 => ?_; refine el3 h9 fun e1 e2 e3 => ?_; clear h9
  refine z9 ?_; clear z9; try k_unmd
  k_dflt (refine' ks_code_super ?k1 ?k2 ?k3 ?k4 ?k5 ?kA ?kF ?kK ?k6 ?k7 ?k8 ?k9 ?kB ?_ ?c1 ?c2 ?c3 ?c4; (case kA => exact rfl); (case kF => exact rfl); (case kK => assumption); (case k1 => k_asm); (case k2 => k_asm); (case k3 => k_asm); (case k4 => k_asm); (case k5 => k_asm); (case k6 => k_is); (case k7 => k_is); (case k8 => ktr_room); (case k9 => exact BindsTo.of_eq rfl); (case kB => exact locs rfl); (case c1 => decide); (case c2 => exact rfl); (case c3 => exact rfl); (case c4 => exact rfl); intro g' L' h' FG' F' N' B' X' T' l1; (try k_lt l1); (try dsimp only); (try k_lift B'))
  walk_at "S"
  try k_fold
  k_dflt (refine' RCtr.use (heap_size o x S S.up.length W.len.symm) ?B ?F ?X ?N ?T ?k ?pre ?d ?u ?_)
  (case B | F | X | N | T => k_asm); (case k => first | exact rfl | assumption); (case d | u => walk_at "ROOM")
  (case pre => exact hH)
  intro r' h' tk' F' N' hp'; (try k_sweep); (first | (obtain ⟨t', e'⟩ := hp'; subst e') | (have e' := hp'; subst e')); (try dsimp only); (try k_fold)
  walk_at "S"
  try k_fold
  k_dflt (refine' RCtr.use (check_ok ra r S.up.length _) ?B ?F ?X ?N ?T ?k ?pre ?d ?u ?_)
  (case B | F | X | N | T => k_asm); (case k => first | exact rfl | assumption); (case d | u => walk_at "ROOM")
  (case pre => exact ⟨hd, hr⟩)
  intro r' h' tk' F' N' hp'; (try k_sweep); (first | (obtain ⟨t', e'⟩ := hp'; subst e') | (have e' := hp'; subst e')); (try dsimp only); (try k_fold)
  walk_at "S"
  try k_fold
  k_dflt (refine' RCtr.use (heap_size o x S S.up.length W.len.symm) ?B ?F ?X ?N ?T ?k ?pre ?d ?u ?_)
  (case B | F | X | N | T => k_asm); (case k => first | exact rfl | assumption); (case d | u => walk_at "ROOM")
  (case pre => exact hH)
  intro r' h' tk' F' N' hp'; (try k_sweep); (first | (obtain ⟨t', e'⟩ := hp'; subst e') | (have e' := hp'; subst e')); (try dsimp only); (try k_fold)
  walk_at "S"
  try k_fold
  k_dflt (refine' RCtr.use (heap_size o x S S.up.length W.len.symm) ?B ?F ?X ?N ?T ?k ?pre ?d ?u ?_)
  (case B | F | X | N | T => k_asm); (case k => first | exact rfl | assumption); (case d | u => walk_at "ROOM")
  (case pre => exact hH)
  intro r' h' tk' F' N' hp'; (try k_sweep); (first | (obtain ⟨t', e'⟩ := hp'; subst e') | (have e' := hp'; subst e')); (try dsimp only); (try k_fold)
  walk_at "S"
  rename_i T8 h8 F8 N8 l8
  have hvr : vr.length = S.rows.length := by have := e3.length; simpa using this
  refine append_N (r := o + 15) (reg := reg) (by k_asm) (by k_asm) (.tail _ e1) e2 (by rw [sizeLine_eq, hvr]; omega) fun h9 news9 F9 N9 g9 m9 => ?_
  k_sweep
  have gB : Gr (fun k => k = o + 15) reg news reg news9 := Gr.cons.trans g9.toGr
  have e2' := g9.reg' (.tail _ e1) e2
  have hT := g9.tup (.head _)
  refine bc fun z9 => ?_
  refine ex1 z.forest fun nf h9 => ?_; refine el2 h9 fun hf1 hf2 => ?_; clear h9
  refine z9 ?_; clear z9; try k_unmd
  have hH9 : HeapR w news9 reg o x ({ S with rows := S.rows ++ [Row.same a b r] } : Hs) := ⟨A, z.obj.gr gB.toGw (by walk_at "NR"), z.bank.gr gB.toGw (by walk_at "NR") (by walk_at "NR") (by walk_at "NA"), z.uni.gr gB.toGw (by walk_at "NR") (by walk_at "NA"), z.edges.gr gB.toGw (by walk_at "NR"), ⟨nf, hf1.gr gB.toGw (by walk_at "NR"), hf2⟩, z.known.gr gB.toGw (by walk_at "NR"), z.above.gr gB.toGw (by walk_at "NR") (by walk_at "NR"), z.wait.gr gB.toGw (by walk_at "NR"), ⟨_, _, m9, e2', by
      dsimp only
      rw [List.map_append]
      exact (e3.gr gB.toGw (by walk_at "NR")).append (.cons (.tuple hT (.cons (.str _ _) (.cons (.int _ _) (.cons (.int _ _) (.cons (hd.gr gB.toGw (by walk_at "NR")) .nil))))) .nil)⟩⟩
  replace h1 := gB.inst h1
  replace h2 := gB.at h2 h3 (by walk_at "NR")
  have W9 : Whs ({ S with rows := S.rows ++ [Row.same a b r] } : Hs) := W.rows_more (by simp)
  repeat' (first | ((try k_unmd); k_unfold; (try dsimp only)) | ((try dsimp only); (fail_if_success (with_reducible show _root_.PySem.wpAt _ _ _ _ _ _ _)); walk1))
  try dsimp only
  walk1
  refine ks_wpAt_Return_some ?_
  refine ks_wpAt_MethodCall ?_
  k_dflt (refine' ks_node ?s1 ?s2 ?s3 ?s4 ?s5 ?s6 ?s7 ?s8 ?s9 ?s10 ?s11 ?s12 ?s13 ?s14 ?s15 ?s16 ?s17 ?s18 ?s19 ?s20 ?s21 ?s22 ?_; (case s1 => k_asm); (case s2 => k_asm); (case s3 => k_asm); (case s4 => k_asm); (case s5 => k_is); (case s6 => rfl); (case s7 => rfl); (case s8 => k_inst); (case s9 => k_is); (case s10 => rfl); (case s11 => first | rfl | decide +kernel); (case s12 => k_is); (case s13 => k_is); (case s14 => k_is); (case s15 => k_is); (case s16 => decide); (case s17 => rfl); (case s18 => rfl); (case s19 => rfl); (case s20 => rfl); (case s21 => decide +kernel); (case s22 => first | boot_by_name | rfl | kernel_rfl); intro so' h' F' N' l1; (try k_lt l1))
  walk_at "S"
  try k_fold
  k_dflt (refine' Ctr.useM (heap_merge o x _ a b _ _ (.ref ra) W9) ?q ?B ?F ?X ?N ?T ?k ?pre ?d ?u ?_)
  (case B | F | X | N | T => k_asm); (case k => first | exact rfl | assumption); (case d | u => walk_at "ROOM")
  (case q => k_mem)
  (case pre => exact ⟨hH9.gr (Gr.sub (R := fun _ => False) (by intro p hp; repeat (first | exact hp | refine List.mem_cons_of_mem _ ?_))).toGw id id off_no, ha, hb, by simp; omega⟩)
  intro r2 news2 reg2 h2' tk2 F2 N2 hp9; refine bc fun z9 => ?_
  refine el3 hp9 fun hq2 hH2 g2 => ?_; try clear hp9
  obtain rfl := hq2
  refine z9 ?_; clear z9; try k_unmd
  try k_sweep
  try dsimp only
  try k_fold
  walk_at "S"
  exact hret _ news2 reg2 _ _ (by k_asm) (by k_asm) ⟨rfl, hH2, (gB.rs rfl).trans ((Gr.sub (R := fun _ => False) (by intro p hp; repeat (first | exact hp | refine List.mem_cons_of_mem _ ?_))).no.trans (g2.up rfl))⟩
end
section
variable {w : World} {mean : ExcName → Option Value} {mg mb : Str → Option Value}
noncomputable abbrev sdo (w : World) (t : Tok) (x : Addr) : Obj := dictOf [⟨HK w "heap", .str "heap" t, .ref x⟩] 1
structure StyOk (w : World) (news : Led) (reg : Reg) (q o : Nat) (st : Addr) (S : Hs) (sd x : Addr) (t : Tok) : Prop where
  inst : (st, instObj 527 sd) ∈ news
  dict : (sd, sdo w t x) ∈ news
  q : reg sd = q
  heap : HeapR w news reg o x S
noncomputable def StyR (w : World) (news : Led) (reg : Reg) (q o : Nat) (st : Addr) (S : Hs) : Prop := ∃ sd x t, StyOk w news reg q o st S sd x t
theorem StyOk.gr {R reg news reg' news' q o st S sd x t} (h : StyOk w news reg q o st S sd x t) (g : Gw R reg news reg' news') (nq : ¬ R q) (n1 : ¬ R 1) (n2 : ¬ R 2) (n5 : Off R o allH) : StyOk w news' reg' q o st S sd x t :=
  ⟨g.inst h.inst, g.at h.dict h.q nq, g.regw h.dict h.q nq, h.heap.gr g n1 n2 n5⟩
theorem StyR.gr {R reg news reg' news' q o st S} (h : StyR w news reg q o st S) (g : Gw R reg news reg' news') (nq : ¬ R q) (n1 : ¬ R 1) (n2 : ¬ R 2) (n5 : Off R o allH) : StyR w news' reg' q o st S := by
  obtain ⟨sd, x, t, a⟩ := h
  exact ⟨sd, x, t, a.gr g nq n1 n2 n5⟩
theorem story_put (q o : Nat) (ho : 15 ≤ o) (hq : Nat.ble q 14 = true) (st : Addr) (S : Hs) (t : Tr) (ta : Addr) (W : Whs S) : Ctr w mean mg mb 477 (20 * t.h + 1) (800 * t.h + 3) [.ref st, .ref ta]
   (fun news reg => StyR w news reg q o st S ∧ DT news reg (.ref ta) t.dat ∧ t.ok ∧ S.up.length + t.size ≤ 63 ∧ S.rows.length + t.size ≤ 1000000)
   (fun news reg r news' reg' => (∃ tk, r = .int ((t.put S).2 : Int) tk) ∧ StyR w news' reg' q o st (t.put S).1 ∧ Gr (RS o allH) reg news reg' news') := by
  unfold Ctr
  k_fill
  intro dp un gd cn cs a₀ ccd cl outer A₀ base h₀ L m news reg s Q E B F X N T hk hpre hdp hun hret
  refine bc fun z9 => ?_
  refine el5 hpre fun hq1 hd hok hup hrw => ?_; try clear hpre
  obtain ⟨sd, x, tk0, z⟩ := hq1
  refine z9 ?_; clear z9; try k_unmd
  have h1 := z.inst
  have h2 := z.dict
  obtain ⟨A, zz⟩ := id z.heap
  have h3 := zz.obj.inst
  have h4 := zz.obj.dict
  clear zz
  k_dflt ktr_enter
  refine' (let AA := _; let EE := _; let TT : Nat := _; (?_ : wpAny _ AA _ _ EE ⟨_, _, _, TT, _⟩))
  with_reducible rename Fr _ _ _ _ => kF
  refine' (let mm : Str → Option Value := _; (fun (kF : Fr _ _ _ mm) => ?_) kF); try k_unmd
  walk_at "NM"
  walk_at "S"
  try k_fold
  k_dflt (refine' Ctr.use (heap_put o ho x t S ta W) ?B ?F ?X ?N ?T ?k ?pre ?d ?u ?_)
  (case B | F | X | N | T => k_asm); (case k => first | exact rfl | assumption); (case d | u => walk_at "ROOM")
  (case pre => exact ⟨z.heap, hd, hok, hup, hrw⟩)
  intro r2 news2 reg2 h2' tk2 F2 N2 hp9; refine bc fun z9 => ?_
  refine el3 hp9 fun hq2 hH2 g2 => ?_; try clear hp9
  obtain ⟨tk, rfl⟩ := hq2
  refine z9 ?_; clear z9; try k_unmd
  try k_sweep
  try dsimp only
  try k_fold
  walk_at "S"
  exact hret _ news2 reg2 _ _ (by k_asm) (by k_asm) ⟨⟨tk, rfl⟩, ⟨sd, x, tk0, g2.inst h1, g2.at h2 z.q (rs_big ho hq), g2.regw h2 z.q (rs_big ho hq), hH2⟩, g2⟩
theorem story_merge (q o : Nat) (ho : 15 ≤ o) (hq : Nat.ble q 14 = true) (st : Addr) (S : Hs) (a b : Nat) (r : Rsn) (ta tb : Tok) (ra : Addr) (W : Whs S) : Ctr w mean mg mb 484 9 440 [.ref st, .int a ta, .int b tb, .ref ra]
   (fun news reg => StyR w news reg q o st S ∧ DT news reg (.ref ra) r.dat ∧ a < S.up.length ∧ b < S.up.length ∧ r.below S.up.length ∧ S.rows.length + 1 ≤ 1000000)
   (fun news reg v news' reg' => v = .bool (decide (root S.up a ≠ root S.up b)) ∧ StyR w news' reg' q o st (S.wmerge a b r) ∧ Gr (RS o allH) reg news reg' news') := by
  unfold Ctr
  k_fill
  intro dp un gd cn cs a₀ ccd cl outer A₀ base h₀ L m news reg s Q E B F X N T hk hpre hdp hun hret
  refine bc fun z9 => ?_
  refine el6 hpre fun hq3 hd ha hb hr hrw => ?_; try clear hpre
  obtain ⟨sd, x, tk0, z⟩ := hq3
  refine z9 ?_; clear z9; try k_unmd
  have h1 := z.inst
  have h2 := z.dict
  obtain ⟨A, zz⟩ := id z.heap
  have h3 := zz.obj.inst
  have h4 := zz.obj.dict
  clear zz
  k_dflt ktr_enter
  refine' (let AA := _; let EE := _; let TT : Nat := _; (?_ : wpAny _ AA _ _ EE ⟨_, _, _, TT, _⟩))
  with_reducible rename Fr _ _ _ _ => kF
  refine' (let mm : Str → Option Value := _; (fun (kF : Fr _ _ _ mm) => ?_) kF); try k_unmd
  walk_at "NM"
  walk_at "S"
  try k_fold
  k_dflt (refine' Ctr.use (w_merge o ho x S a b r _ _ ra W) ?B ?F ?X ?N ?T ?k ?pre ?d ?u ?_)
  (case B | F | X | N | T => k_asm); (case k => first | exact rfl | assumption); (case d | u => walk_at "ROOM")
  (case pre => exact ⟨z.heap, hd, ha, hb, hr, hrw⟩)
  intro r2 news2 reg2 h2' tk2 F2 N2 hp9; refine bc fun z9 => ?_
  refine el3 hp9 fun hq4 hH2 g2 => ?_; try clear hp9
  obtain rfl := hq4
  refine z9 ?_; clear z9; try k_unmd
  try k_sweep
  try dsimp only
  try k_fold
  walk_at "S"
  exact hret _ news2 reg2 _ _ (by k_asm) (by k_asm) ⟨rfl, ⟨sd, x, tk0, g2.inst h1, g2.at h2 z.q (rs_big ho hq), g2.regw h2 z.q (rs_big ho hq), hH2⟩, g2⟩
theorem story_settle (q o : Nat) (ho : 15 ≤ o) (hq : Nat.ble q 14 = true) (st : Addr) (S : Hs) (W : Whs S) : Ctr w mean mg mb 491 8 320 [.ref st]
   (fun news reg => StyR w news reg q o st S ∧ S.rows.length + 1 ≤ 1000000)
   (fun news reg r news' reg' => r = .none ∧ StyR w news' reg' q o st S.wsettle ∧ Gr (RS o allH) reg news reg' news') := by
  unfold Ctr
  k_fill
  intro dp un gd cn cs a₀ ccd cl outer A₀ base h₀ L m news reg s Q E B F X N T hk hpre hdp hun hret
  refine bc fun z9 => ?_
  obtain ⟨⟨sd, x, tk0, z⟩, hrw⟩ := hpre
  refine z9 ?_; clear z9; try k_unmd
  have h1 := z.inst
  have h2 := z.dict
  obtain ⟨A, zz⟩ := id z.heap
  have h3 := zz.obj.inst
  have h4 := zz.obj.dict
  clear zz
  k_dflt ktr_enter
  refine' (let AA := _; let EE := _; let TT : Nat := _; (?_ : wpAny _ AA _ _ EE ⟨_, _, _, TT, _⟩))
  with_reducible rename Fr _ _ _ _ => kF
  refine' (let mm : Str → Option Value := _; (fun (kF : Fr _ _ _ mm) => ?_) kF); try k_unmd
  walk_at "NM"
  walk_at "S"
  try k_fold
  k_dflt (refine' Ctr.use (w_settle o ho x S W) ?B ?F ?X ?N ?T ?k ?pre ?d ?u ?_)
  (case B | F | X | N | T => k_asm); (case k => first | exact rfl | assumption); (case d | u => walk_at "ROOM")
  (case pre => exact ⟨z.heap, hrw⟩)
  intro r2 news2 reg2 h2' tk2 F2 N2 hp9; refine bc fun z9 => ?_
  refine el3 hp9 fun hq5 hH2 g2 => ?_; try clear hp9
  obtain rfl := hq5
  refine z9 ?_; clear z9; try k_unmd
  try k_sweep
  try dsimp only
  try k_fold
  walk_at "S"
  exact hret _ news2 reg2 _ _ (by k_asm) (by k_asm) ⟨rfl, ⟨sd, x, tk0, g2.inst h1, g2.at h2 z.q (rs_big ho hq), g2.regw h2 z.q (rs_big ho hq), hH2⟩, g2⟩
theorem story_rows (q o : Nat) (ho : 15 ≤ o) (st : Addr) (S : Hs) : Ctr w mean mg mb 498 1 40 [.ref st]
   (fun news reg => StyR w news reg q o st S ∧ S.rows.length ≤ 1000000)
   (fun news reg r news' reg' => ∃ l, r = .ref l ∧ DT news' reg' (.ref l) (.list (S.rows.map Row.dat)) ∧ Gr (fun _ => False) reg news reg' news') := by
  unfold Ctr
  k_fill
  intro dp un gd cn cs a₀ ccd cl outer A₀ base h₀ L m news reg s Q E B F X N T hk hpre hdp hun hret
  refine bc fun z9 => ?_
  obtain ⟨⟨sd, x, tk0, z⟩, hrw⟩ := hpre
  refine z9 ?_; clear z9; try k_unmd
  have h1 := z.inst
  have h2 := z.dict
  obtain ⟨A, zz⟩ := id z.heap
  have h3 := zz.obj.inst
  have h4 := zz.obj.dict
  refine bc fun z9 => ?_
  refine ex2 zz.rows fun vr cr h9 => ?_; refine el3 h9 fun e1 e2 e3 => ?_; clear h9
  refine z9 ?_; clear z9; try k_unmd
  clear zz
  k_dflt ktr_enter
  refine' (let AA := _; let EE := _; let TT : Nat := _; (?_ : wpAny _ AA _ _ EE ⟨_, _, _, TT, _⟩))
  with_reducible rename Fr _ _ _ _ => kF
  refine' (let mm : Str → Option Value := _; (fun (kF : Fr _ _ _ mm) => ?_) kF); try k_unmd
  walk_at "NM"
  walk_at "S"
  have hvr : vr.length = S.rows.length := by have := e3.length; simpa using this
  refine list_copyK (by k_asm) (by k_asm) ⟨_, News.get (by k_asm) e1, rfl, cr, rfl⟩ (fun D cD h5 F5 N5 l5 => ?_) (by simp; rw [sizeLine_eq]; omega)
  refine bc fun z9 => ?_
  obtain ⟨reg5, g5, r5⟩ := Gr.fresh (R := fun _ => False) (reg := reg) (k := 2) (o := lisO vr cD) l5
  refine z9 ?_; clear z9; try k_unmd
  walk_at "S"
  exact hret (.ref D) _ reg5 _ _ (by k_asm) (by k_asm) ⟨D, rfl, .list (.head _) r5 (e3.gr g5.toGw id), g5⟩
noncomputable def Hs.act (S : Hs) : Row → Hs
  | .add op kids => S.wadd (op, kids)
  | .same a b r => S.wmerge a b r
  | .settle => S.wsettle
noncomputable def Row.fit (S : Hs) : Row → Prop
  | .add op kids => OpOk op ∧ kids.length ≤ 2 ∧ (∀ k ∈ kids, k < S.up.length) ∧ S.up.length < 63
  | .same a b r => a < S.up.length ∧ b < S.up.length ∧ r.below S.up.length
  | .settle => True
theorem Rsn.dat_ref {news reg v} {r : Rsn} (h : DT news reg v r.dat) : ∃ a, v = .ref a := by
  cases r <;> (cases h; exact ⟨_, rfl⟩)
theorem inv_add {news : Led} {reg : Reg} {ra : Addr} {op : Str} {kids : List Nat} (hd : DT news reg (.ref ra) (Row.add op kids).dat) {P : Prop} (k : ∀ c t1 t2 ka us c3, (ra, tupO [.str (Str.ofString "add") t1, .str op t2, .ref ka] c) ∈ news → (ka, tupO us c3) ∈ news → IntsAre us (nats kids) → P) : P := by
  cases hd with | tuple hm hds => ?_
  cases hds with | cons a1 r1 => ?_
  cases r1 with | cons a2 r2 => ?_
  cases r2 with | cons a3 r3 => ?_
  cases a1
  cases a2
  cases r3
  cases a3 with | @tuple ka us c3 _ m3 q3 => ?_
  exact k _ _ _ _ _ _ hm m3 (ints_of (by rw [← nats_dat]; exact q3))
theorem inv_same {news : Led} {reg : Reg} {ra : Addr} {a b : Nat} {r : Rsn} (hd : DT news reg (.ref ra) (Row.same a b r).dat) {P : Prop} (k : ∀ c t1 t2 t3 rr, (ra, tupO [.str (Str.ofString "same") t1, .int a t2, .int b t3, .ref rr] c) ∈ news → DT news reg (.ref rr) r.dat → P) : P := by
  cases hd with | tuple hm hds => ?_
  cases hds with | cons a1 r1 => ?_
  cases r1 with | cons a2 r2 => ?_
  cases r2 with | cons a3 r3 => ?_
  cases r3 with | cons a4 r4 => ?_
  cases a1
  cases a2
  cases a3
  cases r4
  obtain ⟨rr, rfl⟩ := Rsn.dat_ref a4
  exact k _ _ _ _ _ hm a4
theorem inv_settle {news : Led} {reg : Reg} {ra : Addr} (hd : DT news reg (.ref ra) Row.settle.dat) {P : Prop} (k : ∀ c t1, (ra, tupO [.str (Str.ofString "settle") t1] c) ∈ news → P) : P := by
  cases hd with | tuple hm hds => ?_
  cases hds with | cons a1 r1 => ?_
  cases a1
  cases r1
  exact k _ _ hm
theorem story_do (q o : Nat) (ho : 15 ≤ o) (hq : Nat.ble q 14 = true) (st : Addr) (S : Hs) (row : Row) (ra : Addr) (W : Whs S) : Ctr w mean mg mb 517 9 520 [.ref st, .ref ra]
   (fun news reg => StyR w news reg q o st S ∧ DT news reg (.ref ra) row.dat ∧ row.fit S ∧ S.rows.length + 1 ≤ 1000000)
   (fun news reg r news' reg' => r = .none ∧ StyR w news' reg' q o st (S.act row) ∧ Gr (RS o allH) reg news reg' news') := by
  unfold Ctr
  k_fill
  intro dp un gd cn cs a₀ ccd cl outer A₀ base h₀ L m news reg s Q E B F X N T hk hpre hdp hun hret
  refine bc fun z9 => ?_
  refine el4 hpre fun hq6 hd hfit hrw => ?_; try clear hpre
  obtain ⟨sd, x, tk0, z⟩ := hq6
  refine z9 ?_; clear z9; try k_unmd
  have h1 := z.inst
  have h2 := z.dict
  obtain ⟨A, zz⟩ := id z.heap
  have h3 := zz.obj.inst
  have h4 := zz.obj.dict
  clear zz
  cases row with
  | add op kids =>
    refine inv_add hd fun c t1 t2 ka us c3 hm m3 hI => ?_
    refine bc fun z9 => ?_
    refine el4 hfit fun f1 f2 f3 f4 => ?_; try clear hfit
    refine z9 ?_; clear z9; try k_unmd
    k_dflt ktr_enter
    refine' (let AA := _; let EE := _; let TT : Nat := _; (?_ : wpAny _ AA _ _ EE ⟨_, _, _, TT, _⟩))
    with_reducible rename Fr _ _ _ _ => kF
    refine' (let mm : Str → Option Value := _; (fun (kF : Fr _ _ _ mm) => ?_) kF); try k_unmd
    walk_at "NM"
    walk_at "S"
    try k_fold
    k_dflt (refine' Ctr.use (w_add o ho x S op kids _ ka us c3 W) ?B ?F ?X ?N ?T ?k ?pre ?d ?u ?_)
    (case B | F | X | N | T => k_asm); (case k => first | exact rfl | assumption); (case d | u => walk_at "ROOM")
    (case pre => exact ⟨z.heap, f1, by k_asm, hI, f2, f3, f4, by omega⟩)
    intro r2 news2 reg2 h2' tk2 F2 N2 hp9; refine bc fun z9 => ?_
    refine el3 hp9 fun hq7 hH2 g2 => ?_; try clear hp9
    obtain ⟨t7, rfl⟩ := hq7
    refine z9 ?_; clear z9; try k_unmd
    try k_sweep
    try dsimp only
    try k_fold
    walk_at "S"
    exact hret _ news2 reg2 _ _ (by k_asm) (by k_asm) ⟨rfl, ⟨sd, x, tk0, g2.inst h1, g2.at h2 z.q (rs_big ho hq), g2.regw h2 z.q (rs_big ho hq), hH2⟩, g2⟩
  | same a b r =>
    refine inv_same hd fun c t1 t2 t3 rr hm a4 => ?_
    refine bc fun z9 => ?_
    refine el3 hfit fun f1 f2 f3 => ?_; try clear hfit
    refine z9 ?_; clear z9; try k_unmd
    k_dflt ktr_enter
    refine' (let AA := _; let EE := _; let TT : Nat := _; (?_ : wpAny _ AA _ _ EE ⟨_, _, _, TT, _⟩))
    with_reducible rename Fr _ _ _ _ => kF
    refine' (let mm : Str → Option Value := _; (fun (kF : Fr _ _ _ mm) => ?_) kF); try k_unmd
    walk_at "NM"
    walk_at "S"
    try k_fold
    k_dflt (refine' Ctr.use (w_merge o ho x S a b r _ _ rr W) ?B ?F ?X ?N ?T ?k ?pre ?d ?u ?_)
    (case B | F | X | N | T => k_asm); (case k => first | exact rfl | assumption); (case d | u => walk_at "ROOM")
    (case pre => exact ⟨z.heap, by k_asm, f1, f2, f3, hrw⟩)
    intro r2 news2 reg2 h2' tk2 F2 N2 hp9; refine bc fun z9 => ?_
    refine el3 hp9 fun hq8 hH2 g2 => ?_; try clear hp9
    obtain rfl := hq8
    refine z9 ?_; clear z9; try k_unmd
    try k_sweep
    try dsimp only
    try k_fold
    walk_at "S"
    exact hret _ news2 reg2 _ _ (by k_asm) (by k_asm) ⟨rfl, ⟨sd, x, tk0, g2.inst h1, g2.at h2 z.q (rs_big ho hq), g2.regw h2 z.q (rs_big ho hq), hH2⟩, g2⟩
  | settle =>
    refine inv_settle hd fun c t1 hm => ?_
    k_dflt ktr_enter
    refine' (let AA := _; let EE := _; let TT : Nat := _; (?_ : wpAny _ AA _ _ EE ⟨_, _, _, TT, _⟩))
    with_reducible rename Fr _ _ _ _ => kF
    refine' (let mm : Str → Option Value := _; (fun (kF : Fr _ _ _ mm) => ?_) kF); try k_unmd
    walk_at "NM"
    walk_at "S"
    try k_fold
    k_dflt (refine' Ctr.use (w_settle o ho x S W) ?B ?F ?X ?N ?T ?k ?pre ?d ?u ?_)
    (case B | F | X | N | T => k_asm); (case k => first | exact rfl | assumption); (case d | u => walk_at "ROOM")
    (case pre => exact ⟨z.heap, hrw⟩)
    intro r2 news2 reg2 h2' tk2 F2 N2 hp9; refine bc fun z9 => ?_
    refine el3 hp9 fun hq9 hH2 g2 => ?_; try clear hp9
    obtain rfl := hq9
    refine z9 ?_; clear z9; try k_unmd
    try k_sweep
    try dsimp only
    try k_fold
    walk_at "S"
    exact hret _ news2 reg2 _ _ (by k_asm) (by k_asm) ⟨rfl, ⟨sd, x, tk0, g2.inst h1, g2.at h2 z.q (rs_big ho hq), g2.regw h2 z.q (rs_big ho hq), hH2⟩, g2⟩
end
section
variable {w : World} {mean : ExcName → Option Value} {mg mb : Str → Option Value}
theorem story_new (q o : Nat) (ho : 15 ≤ o) (hq : Nat.ble q 14 = true) (hq3 : Nat.ble q 3 = false) : Ctr w mean mg mb 527 9 400 [] (fun _ _ => True) (fun news reg r news' reg' => ∃ st, r = .ref st ∧ StyR w news' reg' q o st {} ∧ Gr (fun _ => False) reg news reg' news') := by
  unfold Ctr
  k_fill
  intro dp un gd cn cs a₀ ccd cl outer A₀ base h₀ L m news reg s Q E B F X N T hk hpre hdp hun hret
  refine' make_K (C := 527) F N (X.keeps F.keep) ?m1 ?m2 (beq_iff_eq.mp (?m3 : isFn (KK w.params) _ = true)) ?_
  (case m1 => k_is)
  (case m2 => k_is)
  (case m3 => k_is)
  intro x dx h1 F1 N1 l1 l2
  replace N1 : News h₀ L h1 ((x, instObj 527 dx) :: (dx, dictOf [] 0) :: news) := N1
  refine bc fun z9 => ?_
  obtain ⟨reg1, g1, r1⟩ := Gr.fresh (R := fun _ => False) (reg := reg) (k := 3) (o := dictOf [] 0) l1
  refine z9 ?_; clear z9; try k_unmd
  have hi : (x, instObj 527 dx) ∈ (x, instObj 527 dx) :: (dx, dictOf [] 0) :: news := .head _
  have hd : (dx, dictOf [] 0) ∈ (x, instObj 527 dx) :: (dx, dictOf [] 0) :: news := .tail _ (.head _)
  have rd : reg1 dx = 3 := r1
  have gC : Lo dx reg news reg1 ((x, instObj 527 dx) :: (dx, dictOf [] 0) :: news) := g1.toLo.trans (Gr.cons (R := fun _ => False)).toLo
  generalize (x, instObj 527 dx) :: (dx, dictOf [] 0) :: news = news0 at hi hd gC N1
  k_dflt ktr_enter
  refine' (let AA := _; let EE := _; let TT : Nat := _; (?_ : wpAny _ AA _ _ EE ⟨_, _, _, TT, _⟩))
  with_reducible rename Fr _ _ _ _ => kF
  refine' (let mm : Str → Option Value := _; (fun (kF : Fr _ _ _ mm) => ?_) kF); try k_unmd
  walk_at "NM"
  repeat' (first | ((try k_unmd); k_unfold; (try dsimp only)) | ((try dsimp only); (fail_if_success (with_reducible (first | show wpAny _ _ (setAttr _ _ _) _ _ _ | show wpAny _ _ (call _ _ _) _ _ _))); walk1) | (leave1; try dsimp only))
  try k_fold
  k_dflt (refine' Ctr.use (reg := reg1) (w_new o ho) ?B ?F ?X ?N ?T ?k ?pre ?d ?u ?_)
  (case d => rw [depth_under_make]; show dp + 1 + 1 + 7 < recursionLimit; omega)
  (case u => rw [units_under_make]; show un + 1 + 3 + 320 < cLine; omega)
  (case B => k_asm); (case F => k_asm); (case X => k_asm); (case N => k_asm); (case T => k_asm); (case k => first | exact rfl | assumption)
  (case pre => trivial)
  intro r1 news1 reg2 h1' tk1 F1 N1 hp9; refine bc fun z9 => ?_
  refine ex1 hp9 fun hx h9 => ?_; refine el3 h9 fun hq1 hB g2 => ?_; clear h9; try clear hp9
  obtain rfl := hq1
  refine z9 ?_; clear z9; try k_unmd
  try k_sweep
  try dsimp only
  try k_fold
  replace hi := g2.inst hi
  replace rd := (g2.regs _ hd).trans rd
  replace hd := g2.keep _ hd id
  replace gC := gC.trans g2.toLo
  repeat' (first | ((try k_unmd); k_unfold; (try dsimp only)) | ((try dsimp only); (fail_if_success (with_reducible (first | show wpAny _ _ (setAttr _ _ _) _ _ _ | show wpAny _ _ (call _ _ _) _ _ _))); walk1) | (leave1; try dsimp only))
  refine' sattr_N (r := 3) (reg := reg2) ?F ?X ?N hi hd rd ?hs ?hp ?ht ?hh ?hl ?e ?hz ?_
  (case F => k_asm); (case X => k_asm); (case N => k_asm); (case hs => k_is); (case hp => k_is); (case ht => k_is); (case hh => k_is); (case hl => k_get); (case e => k_put); (case hz => exact Nat.le_of_ble_eq_true rfl)
  intro hp1 news3 Fp1 Np1 p1 m1
  k_sweep
  replace hB := hB.gr p1.toGr.toGw (by walk_at "NR") (by walk_at "NR") (by walk_at "NA")
  replace gC := gC.trans p1.toLo
  replace hi := p1.inst hi
  walk_at "S"
  have hlow0 : ∀ p ∈ news, p.1 < dx := l1
  have gF : Gr (fun _ => False) reg news (fun a => if a = dx then q else reg2 a) news3 := (gC.gr hlow0).rereg hlow0
  have gw := gw_rename (news := news3) (D := dx) (k := q) rd
  refine hret (.ref x) news3 (fun a => if a = dx then q else reg2 a) _ _ (by k_asm) (by k_asm) ⟨x, rfl, ?_, gF⟩
  exact ⟨dx, hx, _, hi, m1, if_pos rfl, hB.gr gw (by walk_at "NR") (by walk_at "NR") (by walk_at "NA")⟩
end
section
variable {w : World} {mean : ExcName → Option Value} {mg mb : Str → Option Value}
section
variable {A : Around} {E : Value → Shared → Prop} {s : Shared} {h₀ : Heap} {L : Addr} {m : Str → Option Value} {news : Led}
theorem max_N {a b : Int} {t u : Tok} {Q : Value → Shared → Prop} (hh : A.handled = none) (F : Fr h₀ L s.heap m) (N : News h₀ L s.heap news)
    (h : ∀ h' tk t', Fr h₀ L h' m → News h₀ L h' news → Q (.int (max a b) t') { s with heap := h', toks := tk }) : wpAny (model PG w) A (call (.builtin "max") [.int a t, .int b u]) Q E s := by
  refine max_two_N hh F N fun h' tk F' N' => ?_
  rw [show (if b > a then b else a) = max a b by split <;> omega]
  exact h h' tk _ F' N'
theorem min_N {a b : Int} {t u : Tok} {Q : Value → Shared → Prop} (hh : A.handled = none) (F : Fr h₀ L s.heap m) (N : News h₀ L s.heap news)
    (h : ∀ h' tk t', Fr h₀ L h' m → News h₀ L h' news → Q (.int (min a b) t') { s with heap := h', toks := tk }) : wpAny (model PG w) A (call (.builtin "min") [.int a t, .int b u]) Q E s := by
  refine min_two_N hh F N fun h' tk F' N' => ?_
  rw [show (if b < a then b else a) = min a b by split <;> omega]
  exact h h' tk _ F' N'
end
theorem pick_upto (vs : List Value) (n : Nat) : (slicePick vs.toArray none (some (n : Int)) none) = (vs.take n).toArray := by
  have e : sliceBounds none (some (n : Int)) none vs.toArray.size = (((0 : Nat) : Int), ((min n vs.toArray.size : Nat) : Int), 1) := by
    simp only [sliceBounds, Option.getD_none, show (1 : Int) > 0 by decide, if_true, if_neg (show ¬ ((n : Int) < 0) by omega)]
    congr 1
    congr 1
    first | (rw [minZ]; exact Int.max_eq_right (Int.natCast_nonneg _)) | omega
  rw [kmk_pick_nat _ e, List.drop_zero, Nat.sub_zero, List.size_toArray, kmk_take_min]
theorem lslice_N {value slice : Expr} {l : Addr} {vs : List Value} {c n : Nat} {u : Tok} {Q : Value → Shared → Prop} {H : Heap} {gn : Array GenState} {dr : Drawn} {tk : Nat} {os : OsState} {A : Around} {E : Value → Shared → Prop} {h₀ : Heap} {L : Addr} {m : Str → Option Value} {news : Led}
    (F : Fr h₀ L H m) (N : News h₀ L H news) (hm : (l, lisO vs c) ∈ news) (hz : vs.length ≤ sizeLine)
    (h : ∀ D h', Fr h₀ L h' m → News h₀ L h' ((D, lisO (vs.take n) 0) :: news) → (∀ p ∈ news, p.1 < D) → Q (.ref D) { heap := h', gens := gn, drawn := dr, toks := tk, os := os })
    (hs : subscripted slice false (.ref l) (.ref H.objs.size) = operate [.ref H.objs.size, .ref l] (getItem (.ref l) (.ref H.objs.size)))
    (hg : ∀ r, letTemporaryGo value (.ref l) r = pure ()) :
    wpAny (model PG w) A (subscriptTail value slice (.ref l) (.ref H.objs.size)) Q E { heap := H.push { cls := .type "slice", data := .fields #[.none, .int n u, .none] }, gens := gn, drawn := dr, toks := tk, os := os } := by
  refine kmk_slice (s := ⟨H, gn, dr, tk, os⟩) F N (its := vs.toArray) (lo := none) (hi := some (n : Int)) ⟨_, N.get hm, rfl, c, rfl⟩ ?_ ?_ (fun D h' F' N' l' => h D h' F' ?_ l') hs hg (by simpa using hz)
  · constructor
  · constructor
  · rw [pick_upto] at N'; exact N'
noncomputable def back (many : Int) (S : Hs) : List Row := S.rows.take many.toNat
noncomputable def acts (S : Hs) : List Row → Hs := List.foldl Hs.act S
noncomputable def ActFits : Hs → List Row → Prop
  | _, [] => True
  | S, r :: l => r.fit S ∧ Whs S ∧ S.rows.length + 1 ≤ 1000000 ∧ ActFits (S.act r) l
theorem ActFits.at : ∀ {l : List Row} {S : Hs} {i : Nat} (_ : ActFits S l) (h : i < l.length), (l[i]).fit (acts S (l.take i)) ∧ Whs (acts S (l.take i)) ∧ (acts S (l.take i)).rows.length + 1 ≤ 1000000
  | r :: l, S, 0, h, _ => ⟨h.1, h.2.1, h.2.2.1⟩
  | r :: l, S, i + 1, h, hi => by
    have := ActFits.at (i := i) h.2.2.2 (by simpa using hi)
    simpa [acts] using this
theorem acts_next {l : List Row} {S : Hs} {i : Nat} (h : i < l.length) : acts S (l.take (i + 1)) = (acts S (l.take i)).act l[i] := by
  unfold acts
  rw [← List.take_append_getElem h, List.foldl_append]
  rfl
theorem Row.dat_ref {news reg v} {r : Row} (h : DT news reg v r.dat) : ∃ a, v = .ref a := by
  cases r <;> (cases h; exact ⟨_, rfl⟩)
theorem off_q {q o : Nat} (ho : 15 ≤ o) (hq : Nat.ble q 14 = true) {l : List Nat} : Off (fun k => k = q) o l := by
  intro n hn hk
  have := Nat.le_of_ble_eq_true hq
  omega
theorem story_back (q o o' : Nat) (ho : 15 ≤ o) (ho' : 15 ≤ o') (hq : Nat.ble q 14 = true) (hq1 : ¬ q = 1) (hq2 : ¬ q = 2) (hq3 : ¬ q = 3) (st : Addr) (S : Hs) (many : Int) (t : Tok) (hF : ActFits {} (back many S)) : Ctr w mean mg mb 510 11 600 [.ref st, .int many t]
   (fun news reg => StyR w news reg q o st S ∧ S.rows.length ≤ 1000000)
   (fun news reg r news' reg' => r = .none ∧ StyR w news' reg' q o' st (acts {} (back many S)) ∧ Gr (fun k => k = q ∨ RS o' allH k) reg news reg' news') := by
  unfold Ctr
  k_fill
  intro dp un gd cn cs a₀ ccd cl outer A₀ base h₀ L m news reg s Q E B F X N T hk hpre hdp hun hret
  refine bc fun z9 => ?_
  obtain ⟨⟨sd, x, tk0, z⟩, hrw⟩ := hpre
  refine z9 ?_; clear z9; try k_unmd
  have h1 := z.inst
  have h2 := z.dict
  k_dflt ktr_enter
  refine' (let AA := _; let EE := _; let TT : Nat := _; (?_ : wpAny _ AA _ _ EE ⟨_, _, _, TT, _⟩))
  with_reducible rename Fr _ _ _ _ => kF
  refine' (let mm : Str → Option Value := _; (fun (kF : Fr _ _ _ mm) => ?_) kF); try k_unmd
  walk_at "NM"
  walk_at "S"
  try k_fold
  k_dflt (refine' Ctr.use (story_rows q o ho st S) ?B ?F ?X ?N ?T ?k ?pre ?d ?u ?_)
  (case B | F | X | N | T => k_asm); (case k => first | exact rfl | assumption); (case d | u => walk_at "ROOM")
  (case pre => exact ⟨⟨sd, x, tk0, z⟩, hrw⟩)
  intro r2 news2 reg2 h2' tk2 F2 N2 hp9; refine bc fun z9 => ?_
  refine ex1 hp9 fun l h9 => ?_; refine el3 h9 fun hq1 hl g2 => ?_; clear h9; try clear hp9
  obtain rfl := hq1
  refine z9 ?_; clear z9; try k_unmd
  try k_sweep
  try dsimp only
  try k_fold
  walk_at "S"
  refine max_N rfl (by k_asm) (by k_asm) fun h3 tk3 t3 F3 N3 => ?_
  rw [show max many (0 : Int) = ((many.toNat : Nat) : Int) by omega]
  walk_at "S"
  refine bc fun z9 => ?_
  cases hl with | @list _ ls cl _ hl0 hrl hdl => ?_
  refine z9 ?_; clear z9; try k_unmd
  try dsimp only
  refine' lslice_N ?F ?N hl0 ?hz ?_ ?hs ?hg
  (case F => k_asm); (case N => k_asm); (case hz => rw [sizeLine_eq]; have := hdl.length; simp at this; omega); (case hs => with_unfolding_all rfl); (case hg => intro _; with_unfolding_all rfl)
  intro D4 h4 F4 N4 l4
  refine bc fun z9 => ?_
  obtain ⟨reg4, g4, r4⟩ := Gr.fresh (R := fun _ => False) (reg := reg2) (k := 2) (o := lisO (ls.take many.toNat) 0) l4
  refine z9 ?_; clear z9; try k_unmd
  have h24 := g2.trans g4
  have hds := (hdl.gr g4.toGw id).take many.toNat
  rw [← List.map_take] at hds
  walk_at "S"
  try k_fold
  k_dflt (refine' Ctr.use (reg := reg4) (w_new o' ho') ?B ?F ?X ?N ?T ?k ?pre ?d ?u ?_)
  (case B | F | X | N | T => k_asm); (case k => first | exact rfl | assumption); (case d | u => walk_at "ROOM")
  (case pre => trivial)
  intro r5 news5 reg5 h5' tk5 F5 N5 hp9; refine bc fun z9 => ?_
  refine ex1 hp9 fun hx h9 => ?_; refine el3 h9 fun hq2 hB g5 => ?_; clear h9; try clear hp9
  obtain rfl := hq2
  refine z9 ?_; clear z9; try k_unmd
  try k_sweep
  try dsimp only
  try k_fold
  have r5 := (g5.regs _ (.head _)).trans r4
  have m5 := g5.keep _ (.head _) id
  replace hds := hds.gr g5.toGw id
  replace h24 := h24.trans g5
  replace h1 := h24.inst h1
  have hq' := h24.regw h2 z.q id
  replace h2 := h24.keep _ h2 id
  repeat' (first | ((try k_unmd); k_unfold; (try dsimp only)) | ((try dsimp only); (fail_if_success (with_reducible (first | show wpAny _ _ (setAttr _ _ _) _ _ _ | show wpAny _ _ (call _ _ _) _ _ _))); walk1) | (leave1; try dsimp only))
  refine' sattr_N (r := q) (reg := reg5) ?F ?X ?N h1 h2 hq' ?hs ?hp ?ht ?hh ?hl ?e ?hz ?_
  (case F => k_asm); (case X => k_asm); (case N => k_asm); (case hs => k_is); (case hp => k_is); (case ht => k_is); (case hh => k_is); (case hl => k_get); (case e => k_put); (case hz => exact Nat.le_of_ble_eq_true rfl)
  intro hp6 news6 Fp6 Np6 p6 m6
  k_sweep
  replace h24 := (h24.mono (S := fun k => k = q) (fun _ e => e.elim)).trans p6.toGr
  replace r5 := (p6.toGr.regs _ m5).trans r5
  replace m5 := p6.toGr.keep _ m5 (by rw [g5.regs _ (.head _), r4]; exact fun e => hq2 e.symm)
  replace hds := hds.gr p6.toGr.toGw (fun e => hq2 e.symm)
  replace hB := hB.gr p6.toGr.toGw (fun e => hq1 e.symm) (fun e => hq2 e.symm) (off_q ho' hq)
  replace h1 := p6.inst h1
  have hZ : StyR w news6 reg5 q o' st {} := ⟨sd, hx, tk0, h1, m6, hq', hB⟩
  clear p6 g5 g4 h2 z hB hdl
  walk_at "S"
  refine' iter_list_x (vs := ls.take many.toNat) (c := 0) (reg := reg5) (fun i news₂ reg₂ => Gr (RS o' allH) reg5 news6 reg₂ news₂ ∧ StyR w news₂ reg₂ q o' st (acts {} ((back many S).take i))) ?hh ?F ?N ?J ?hx ?hp ?hat ?mono ?turn ?done ?hE
  (case hh => rfl); (case F => k_asm); (case N => k_asm); (case hx => rfl); (case hp => rfl)
  (case J => exact ⟨Gr.refl, hZ⟩)
  (case hat => exact fun i news reg h => h.1.at m5 r5 (by walk_at "NR"))
  (case mono => exact fun b i news₁ reg₁ news' reg' hb h gw l => ⟨h.1.lo hb l, h.2.gr gw hq3 (by walk_at "NR") (by walk_at "NR") (by walk_at "NA")⟩)
  (case hE => passes_own)
  case turn =>
    intro i v news₂ reg₂ h tk hv hp9 F8 N8
    obtain ⟨g8, z8⟩ := hp9
    refine' (let mm : Str → Option Value := _; (fun (F8 : Fr _ _ _ mm) => ?_) F8); try k_unmd
    have hds8 := hds.gr g8.toGw (by walk_at "NR")
    have hlen := hds8.length
    have hi : i < (back many S).length := by
      have := (List.getElem?_eq_some_iff.mp hv).1
      simp only [List.length_map] at hlen
      unfold back
      omega
    obtain ⟨v', e1, e2⟩ := hds8.get (k := i) (d := ((back many S)[i]).dat) (by rw [List.getElem?_map]; exact congrArg (Option.map Row.dat) (List.getElem?_eq_getElem hi))
    rw [hv] at e1
    refine bc fun z9 => ?_
    cases e1
    obtain ⟨ra, rfl⟩ := Row.dat_ref e2
    refine el3 (hF.at hi) fun f1 f2 f3 => ?_
    refine ex3 (id z8) fun sd8 x8 tk8 y8 => ?_
    refine z9 ?_; clear z9; try k_unmd
    have k1 := y8.inst
    have k2 := y8.dict
    walk_at "S"
    try k_fold
    k_dflt (refine' Ctr.use (story_do q o' ho' hq st (acts {} ((back many S).take i)) ((back many S)[i]) ra f2) ?B ?F ?X ?N ?T ?k ?pre ?d ?u ?_)
    (case B | F | X | N | T => k_asm); (case k => first | exact rfl | assumption); (case d | u => walk_at "ROOM")
    (case pre => exact ⟨z8, e2, f1, f3⟩)
    intro r9 news9 reg9 h9 tk9 F9 N9 hp9; refine bc fun z9 => ?_
    refine el3 hp9 fun hq3 z9 g9 => ?_; try clear hp9
    obtain rfl := hq3
    refine z9 ?_; clear z9; try k_unmd
    try k_sweep
    try dsimp only
    try k_fold
    walk_at "S"
    refine TurnEnd.mk (news₂ := news9) (reg₂ := reg9) (RS o' allH) (by k_asm) (by k_asm) (by walk_at "NR") (g9) ⟨⟨_, rfl⟩, g8.trans g9, ?_⟩
    rw [acts_next hi]
    exact z9
  case done =>
    intro kv news₂ reg₂ h tk hp9 F8 N8
    obtain ⟨g8, z8⟩ := hp9
    refine' (let mm : Str → Option Value := _; (fun (F8 : Fr _ _ _ mm) => ?_) F8); try k_unmd
    walk_at "S"
    have hlen := hds.length
    simp only [List.length_map] at hlen
    rw [hlen, show S.rows.take many.toNat = back many S from rfl, List.take_length] at z8
    exact hret _ news₂ reg₂ _ _ (by k_asm) (by k_asm) ⟨rfl, z8, (h24.mono (fun _ e => .inl e)).trans (g8.mono (fun _ e => .inr e))⟩
end
section
variable {w : World} {mean : ExcName → Option Value} {mg mb : Str → Option Value}
noncomputable def Row.good : Row → Prop
  | .add op _ => PyData.strOk op = true
  | _ => True
theorem natD_inj {a b : Nat} (h : natD a = natD b) : a = b := by
  unfold natD at h; injection h with h; omega
theorem nats_inj {a b : List Nat} (h : a.map natD = b.map natD) : a = b := by
  induction a generalizing b with
  | nil => cases b with
    | nil => rfl
    | cons y b => cases h
  | cons x a ih => cases b with
    | nil => cases h
    | cons y b =>
      simp only [List.map_cons, List.cons.injEq] at h
      rw [natD_inj h.1, ih h.2]
theorem told_rule : sD "told" ≠ sD "rule" := fun h => by
  unfold sD at h; injection h with h; exact absurd h (by decide +kernel)
theorem add_same : sD "add" ≠ sD "same" := fun h => by
  unfold sD at h; injection h with h; exact absurd h (by decide +kernel)
theorem Rsn.dat_inj : ∀ {a b : Rsn}, a.dat = b.dat → a = b
  | .told, .told, _ => rfl
  | .told, .rule x y, h => by simp only [Rsn.dat, PyData.tuple.injEq, List.cons.injEq] at h; exact absurd h.1 told_rule
  | .rule x y, .told, h => by simp only [Rsn.dat, PyData.tuple.injEq, List.cons.injEq] at h; exact absurd h.1.symm told_rule
  | .rule x y, .rule x' y', h => by
    simp only [Rsn.dat, PyData.tuple.injEq, List.cons.injEq, true_and, and_true] at h
    rw [natD_inj h.1, natD_inj h.2]
theorem Row.dat_inj : ∀ {a b : Row}, a.dat = b.dat → a = b
  | .add o k, .add o' k', h => by
    simp only [Row.dat, PyData.tuple.injEq, List.cons.injEq, PyData.str.injEq, true_and, and_true] at h
    rw [h.1, nats_inj h.2]
  | .same a b r, .same a' b' r', h => by
    simp only [Row.dat, PyData.tuple.injEq, List.cons.injEq, true_and, and_true] at h
    rw [natD_inj h.1, natD_inj h.2.1, Rsn.dat_inj h.2.2]
  | .settle, .settle, _ => rfl
  | .add o k, .same a b r, h => by simp only [Row.dat, PyData.tuple.injEq, List.cons.injEq] at h; exact absurd h.1 add_same
  | .same a b r, .add o k, h => by simp only [Row.dat, PyData.tuple.injEq, List.cons.injEq] at h; exact absurd h.1.symm add_same
  | .add o k, .settle, h => by simp [Row.dat] at h
  | .same a b r, .settle, h => by simp [Row.dat] at h
  | .settle, .add o k, h => by simp [Row.dat] at h
  | .settle, .same a b r, h => by simp [Row.dat] at h
theorem pureD_int (n : Nat) (k : Nat) : pureD n (natD k) = true := by cases n <;> rfl
theorem Rsn.pure (r : Rsn) : pureD 3 r.dat = true := by
  cases r with
  | told => decide +kernel
  | rule x y =>
    simp only [Rsn.dat, pureD, List.all_cons, List.all_nil, pureD_int, Bool.and_true]
    decide +kernel
theorem Row.pure {r : Row} (h : r.good) : pureD 4 r.dat = true := by
  cases r with
  | add op kids =>
    have h : PyData.strOk op = true := h
    have e : (kids.map natD).all (pureD 2) = true := by
      rw [List.all_eq_true]
      intro x hx
      obtain ⟨k, _, rfl⟩ := List.mem_map.mp hx
      rfl
    simp only [Row.dat, pureD, List.all_cons, List.all_nil, h, e, Bool.and_true]
    decide +kernel
  | same a b r =>
    have e := Rsn.pure r
    simp only [Row.dat, pureD, List.all_cons, List.all_nil, e, pureD_int, Bool.and_true]
    decide +kernel
  | settle => decide +kernel
theorem pure_shaped {n : Nat} {d : PyData} (h : pureD n d = true) (hn : n ≤ 64) : SeqAt.shaped d = true := by
  obtain ⟨a, b⟩ := pureD_lay n d h
  unfold SeqAt.shaped
  rw [a, decide_eq_true (Nat.le_trans b hn)]
  rfl
open Classical in
theorem Row.eqv {a b : Row} (ha : a.good) (hb : b.good) : PyData.eqv a.dat b.dat = decide (a = b) := by
  rw [Bool.eq_iff_iff, pureD_eqv 4 _ _ 4 (Row.pure ha) (Row.pure hb), decide_eq_true_eq]
  exact ⟨Row.dat_inj, fun h => h ▸ rfl⟩
open Classical in
noncomputable def parts (a b : List Row) : Nat → Nat → Option Nat
  | _, 0 => none
  | k, n + 1 => if a[k]? = b[k]? then parts a b (k + 1) n else some k
noncomputable def alike (a b : List Row) : Int := match parts a b 0 (min a.length b.length) with
  | some k => k
  | none => if a.length = b.length then -1 else (min a.length b.length : Nat)
theorem parts_step {a b : List Row} : ∀ {i k n : Nat}, i < n → a[k + i]? ≠ b[k + i]? → (∀ j, j < i → a[k + j]? = b[k + j]?) → parts a b k n = some (k + i)
  | 0, k, n + 1, _, h, _ => by rw [parts, if_neg (by simpa using h)]; rfl
  | i + 1, k, n + 1, hi, h, hj => by
    have := parts_step (i := i) (k := k + 1) (n := n) (by omega) (by rwa [show k + 1 + i = k + (i + 1) by omega]) (fun j h2 => by rw [show k + 1 + j = k + (j + 1) by omega]; exact hj (j + 1) (by omega))
    have h0 := hj 0 (by omega)
    simp only [Nat.add_zero] at h0
    rw [parts, if_pos h0, this]
    congr 1; omega
theorem parts_none {a b : List Row} : ∀ {k n : Nat}, (∀ j, j < n → a[k + j]? = b[k + j]?) → parts a b k n = none
  | k, 0, _ => rfl
  | k, n + 1, hj => by
    have h0 := hj 0 (by omega)
    simp only [Nat.add_zero] at h0
    rw [parts, if_pos h0]
    exact parts_none fun j h => by rw [show k + 1 + j = k + (j + 1) by omega]; exact hj (j + 1) (by omega)
theorem llen_N {A : Around} {E : Value → Shared → Prop} {s : Shared} {h₀ : Heap} {L : Addr} {news : Led} {t : Addr} {vs : List Value} {c n : Nat} {Q : Value → Shared → Prop} (N : News h₀ L s.heap news) (hm : (t, lisO vs c) ∈ news) (hn : vs.length = n) (hz : n < 2 ^ 62) (h : ∀ t tk, Q (.int (n : Int) t) { s with toks := tk }) :
    wpAny (model PG w) A (call (.builtin "len") [.ref t]) Q E s := by
  refine len_list (items := vs.toArray) ⟨_, N.get hm, rfl, c, rfl⟩ (by simp; omega) ?_
  have e : ((vs.toArray.size : Nat) : Int) = (n : Int) := by simp [hn]
  rw [e]
  exact h _ _
theorem story_alike (q o q' o' : Nat) (ho : 15 ≤ o) (ho' : 15 ≤ o') (st st' : Addr) (S S' : Hs) : Ctr w mean mg mb 524 3 160 [.ref st, .ref st']
   (fun news reg => StyR w news reg q o st S ∧ StyR w news reg q' o' st' S' ∧ S.rows.length ≤ 1000000 ∧ S'.rows.length ≤ 1000000 ∧ (∀ r ∈ S.rows, r.good) ∧ (∀ r ∈ S'.rows, r.good))
   (fun news reg r news' reg' => (∃ t, r = .int (alike S.rows S'.rows) t) ∧ Gr (fun _ => False) reg news reg' news') := by
  unfold Ctr
  k_fill
  intro dp un gd cn cs a₀ ccd cl outer A₀ base h₀ L m news reg s Q E B F X N T hk hpre hdp hun hret
  refine bc fun z9 => ?_
  refine el6 hpre fun Z Z' hz hz' hg hg' => ?_; try clear hpre
  refine ex3 (id Z) fun sd x tk0 z => ?_
  refine ex3 (id Z') fun sd' x' tk0' z' => ?_
  refine z9 ?_; clear z9; try k_unmd
  have h1 := z.inst
  have h2 := z.dict
  have h3 := z'.inst
  have h4 := z'.dict
  k_dflt ktr_enter
  refine' (let AA := _; let EE := _; let TT : Nat := _; (?_ : wpAny _ AA _ _ EE ⟨_, _, _, TT, _⟩))
  with_reducible rename Fr _ _ _ _ => kF
  refine' (let mm : Str → Option Value := _; (fun (kF : Fr _ _ _ mm) => ?_) kF); try k_unmd
  walk_at "NM"
  walk_at "S"
  try k_fold
  k_dflt (refine' Ctr.use (story_rows q o ho st S) ?B ?F ?X ?N ?T ?k ?pre ?d ?u ?_)
  (case B | F | X | N | T => k_asm); (case k => first | exact rfl | assumption); (case d | u => walk_at "ROOM")
  (case pre => exact ⟨Z, hz⟩)
  intro r2 news2 reg2 h2' tk2 F2 N2 hp9; refine bc fun z9 => ?_
  refine ex1 hp9 fun l h9 => ?_; refine el3 h9 fun hq1 hl g2 => ?_; clear h9; try clear hp9
  obtain rfl := hq1
  refine z9 ?_; clear z9; try k_unmd
  try k_sweep
  try dsimp only
  try k_fold
  have h5 := g2.inst h3
  have h6 := g2.keep _ h4 id
  walk_at "S"
  try k_fold
  k_dflt (refine' Ctr.use (reg := reg2) (story_rows q' o' ho' st' S') ?B ?F ?X ?N ?T ?k ?pre ?d ?u ?_)
  (case B | F | X | N | T => k_asm); (case k => first | exact rfl | assumption); (case d | u => walk_at "ROOM")
  (case pre => exact ⟨Z'.gr g2.toGw id id id off_no, hz'⟩)
  intro r3 news3 reg3 h3' tk3 F3 N3 hp9; refine bc fun z9 => ?_
  refine ex1 hp9 fun l' h9 => ?_; refine el3 h9 fun hq2 hl' g3 => ?_; clear h9; try clear hp9
  obtain rfl := hq2
  refine z9 ?_; clear z9; try k_unmd
  try k_sweep
  try dsimp only
  try k_fold
  replace hl := hl.gr g3.toGw id
  refine bc fun z9 => ?_
  cases hl with | @list _ ls cl _ hl0 hrl hdl => ?_
  cases hl' with | @list _ ls' cl' _ hl0' hrl' hdl' => ?_
  refine z9 ?_; clear z9; try k_unmd
  have g23 := g2.trans g3
  have hn : ls.length = S.rows.length := by have := hdl.length; simpa using this
  have hn' : ls'.length = S'.rows.length := by have := hdl'.length; simpa using this
  clear g2 g3 Z Z' z z' h1 h2 h3 h4 h5 h6
  walk_at "S"
  refine llen_N (by k_asm) (by k_mem) hn (by omega) fun t4 tk4 => ?_
  walk_at "S"
  refine llen_N (by k_asm) (by k_mem) hn' (by omega) fun t5 tk5 => ?_
  walk_at "S"
  refine min_N rfl (by k_asm) (by k_asm) fun h6 tk6 t6 F6 N6 => ?_
  rw [show min (S.rows.length : Int) (S'.rows.length : Int) = ((min S.rows.length S'.rows.length : Nat) : Int) from minZ _ _]
  walk_at "S"
  refine range1_rows (by k_asm) (by k_asm) fun h7 tk7 t7 u7 v7 hr7 F7 N7 hk7 => ?_
  walk_at "S"
  refine' iter_range_x (n := min S.rows.length S'.rows.length) (reg := reg3) (fun i news₂ reg₂ => Gr (fun _ => False) reg3 news3 reg₂ news₂ ∧ ∀ j, j < i → S.rows[j]? = S'.rows[j]?) ?hh hr7 ?hn ?F ?N ?J ?hx ?hp ?mono ?turn ?done ?hE
  (case hh => rfl); (case hn => omega); (case F => k_asm); (case N => k_asm); (case hx => rfl); (case hp => rfl)
  (case J => exact ⟨Gr.cons, fun j hj => nomatch hj⟩)
  (case mono => exact fun b i news₁ reg₁ news' reg' hb h gw l => ⟨h.1.lo (fun p hp => hb p (.tail _ hp)) l, h.2⟩)
  (case hE => passes_own)
  case turn =>
    intro i t8 news₂ reg₂ h tk hi hp9 F8 N8
    obtain ⟨g8, z8⟩ := hp9
    refine' (let mm : Str → Option Value := _; (fun (F8 : Fr _ _ _ mm) => ?_) F8); try k_unmd
    have k1 := g8.keep _ hl0 id
    have k2 := g8.keep _ hl0' id
    have d1 := hdl.gr g8.toGw id
    have d2 := hdl'.gr g8.toGw id
    have hi1 : i < S.rows.length := by first | exact min_l hi | omega
    have hi2 : i < S'.rows.length := by first | exact min_r hi | omega
    obtain ⟨v1, e1, e2⟩ := d1.get (k := i) (d := (S.rows[i]).dat) (by rw [List.getElem?_map]; exact congrArg (Option.map Row.dat) (List.getElem?_eq_getElem hi1))
    obtain ⟨v2, e3, e4⟩ := d2.get (k := i) (d := (S'.rows[i]).dat) (by rw [List.getElem?_map]; exact congrArg (Option.map Row.dat) (List.getElem?_eq_getElem hi2))
    walk_at "S"
    refine' item_list (items := ls.toArray) (k := (i : Int)) ⟨_, News.get (by k_asm) k1, rfl, _, rfl⟩ ?h0 ?hf (by simpa using e1) ?_ ?hs ?hg
    (case h0 => omega); (case hf => omega); (case hs => with_unfolding_all rfl); (case hg => intro _; with_unfolding_all rfl)
    walk_at "S"
    refine' item_list (items := ls'.toArray) (k := (i : Int)) ⟨_, News.get (by k_asm) k2, rfl, _, rfl⟩ ?h0 ?hf (by simpa using e3) ?_ ?hs ?hg
    (case h0 => omega); (case hf => omega); (case hs => with_unfolding_all rfl); (case hg => intro _; with_unfolding_all rfl)
    walk_at "S"
    have G1 := hg _ (List.getElem_mem hi1)
    have G2 := hg' _ (List.getElem_mem hi2)
    refine neR (DT.reads (by k_asm) e2) (DT.reads (by k_asm) e4) (pure_shaped (Row.pure G1) (by decide)) (pure_shaped (Row.pure G2) (by decide)) (by walk_at "ROOM") ?_
    rw [Row.eqv G1 G2]
    by_cases he : S.rows[i] = S'.rows[i]
    · rw [@decide_eq_true _ (Classical.propDecidable _) he]
      walk_at "S"
      refine TurnEnd.mk (news₂ := news₂) (reg₂ := reg₂) (fun _ => False) (by k_asm) (by k_asm) (id) (Gr.refl) ⟨⟨_, rfl⟩, g8, fun j hj => ?_⟩
      by_cases e : j = i
      · subst e
        rw [List.getElem?_eq_getElem hi1, List.getElem?_eq_getElem hi2, he]
      · exact z8 j (by omega)
    · rw [@decide_eq_false _ (Classical.propDecidable _) he]
      walk_at "S"
      (unfold TurnPost; dsimp only)
      walk_at "S"
      refine hret _ news₂ reg₂ _ _ (by k_asm) (by k_asm) ⟨⟨t8, ?_⟩, g23.trans g8⟩
      unfold alike
      rw [parts_step (i := i) hi (by simp only [Nat.zero_add]; rw [List.getElem?_eq_getElem hi1, List.getElem?_eq_getElem hi2]; exact fun h => he (Option.some.inj h)) (fun j hj => by simpa using z8 j hj)]
      simp
  case done =>
    intro kv news₂ reg₂ h tk hp9 F8 N8
    obtain ⟨g8, z8⟩ := hp9
    refine' (let mm : Str → Option Value := _; (fun (F8 : Fr _ _ _ mm) => ?_) F8); try k_unmd
    have k1 := g8.keep _ hl0 id
    have k2 := g8.keep _ hl0' id
    walk_at "S"
    refine llen_N (by k_asm) (by k_mem) hn (by omega) fun t4 tk4 => ?_
    walk_at "S"
    refine llen_N (by k_asm) (by k_mem) hn' (by omega) fun t5 tk5 => ?_
    walk_at "S"
    · rename _ = _ => hE
      refine hret (.int (-1) (tk5 + 1)) news₂ reg₂ _ _ (by k_asm) (by k_asm) ⟨⟨tk5 + 1, ?_⟩, g23.trans g8⟩
      unfold alike
      rw [parts_none (fun j hj => by simpa using z8 j hj)]
      exact congrArg (fun y => Value.int y _) (if_pos (show S.rows.length = S'.rows.length by omega)).symm
    · rename _ ≠ _ => hE
      refine llen_N (by k_asm) (by k_mem) hn (by omega) fun t4 tk4 => ?_
      walk_at "S"
      refine llen_N (by k_asm) (by k_mem) hn' (by omega) fun t5 tk5 => ?_
      walk_at "S"
      refine min_N rfl (by k_asm) (by k_asm) fun h9 tk9 t9 F9 N9 => ?_
      rw [show min (S.rows.length : Int) (S'.rows.length : Int) = ((min S.rows.length S'.rows.length : Nat) : Int) from minZ _ _]
      walk_at "S"
      refine hret _ news₂ reg₂ _ _ (by k_asm) (by k_asm) ⟨⟨t9, ?_⟩, g23.trans g8⟩
      unfold alike
      rw [parts_none (fun j hj => by simpa using z8 j hj)]
      exact congrArg (fun y => Value.int y _) (if_neg (show ¬ S.rows.length = S'.rows.length by omega)).symm
end
section
variable {w : World} {mean : ExcName → Option Value} {mg mb : Str → Option Value}
theorem cells_at : ¬ Str.ofString "cells" = Str.ofString "at" := by decide +kernel
noncomputable def fkvs (c a : Value) : List (Str × Value) := [(Str.ofString "cells", c), (Str.ofString "at", a)]
theorem fkvs_set (c a v : Value) : stored (fkvs c a) (Str.ofString "at") v = fkvs c v := by
  simp [stored, fkvs, cells_at]
theorem fkvs_cells (c a : Value) : valueAt (fkvs c a) (Str.ofString "cells") = some c := by simp [valueAt, fkvs]
theorem fkvs_at (c a : Value) : valueAt (fkvs c a) (Str.ofString "at") = some a := by simp [valueAt, fkvs, cells_at]
section
variable {A : Around} {E : Value → Shared → Prop} {s : Shared} {h₀ : Heap} {L d : Addr} {m : Str → Option Value} {news : Led} {reg : Reg} {r : Nat}
theorem fset_N {o : Obj} {t : Tok} {c a v : Value} {Q : Unit → Shared → Prop} (F : Fr h₀ L s.heap m) (N : News h₀ L s.heap news) (hm : (d, o) ∈ news) (hr : reg d = r) (hk : o.IsDictOf (strKind PG w) (fkvs c a))
    (h : ∀ h' news' o' tk, Fr h₀ L h' m → News h₀ L h' news' → Pt r d reg news news' → (d, o') ∈ news' → o'.IsDictOf (strKind PG w) (fkvs c v) → Q () { s with heap := h', toks := tk }) :
    wpAny (model PG w) A (setItem (.ref d) (.str (Str.ofString "at") t) v) Q E s := by
  have hc : o.cls = .type "dict" := by obtain ⟨_, _, e, _⟩ := hk; exact e.1
  refine kda_set F (led_split N hm) led_updF hk (strKind_is _ _ (Str.ofString "at") t) (by rw [sizeLine_eq]; show 2 ≤ _; omega) fun h' o' F' N' hk' => ?_
  rw [fkvs_set] at hk'
  exact h h' _ o' _ F' N' (gr_put N hm (not_fixed_dict hc) hr) (.head _) hk'
theorem fget_N {kvs : List (Str × Value)} {o : Obj} {k : Str} {t : Tok} {v : Value} {value slice : PySem.Expr} {Q : Value → Shared → Prop} (N : News h₀ L s.heap news) (hm : (d, o) ∈ news) (hk : o.IsDictOf (strKind PG w) kvs) (hv : valueAt kvs k = some v) (h : Q v { s with toks := s.toks + 1 })
    (hs : subscripted slice false (.ref d) (.str k t) = operate [.ref d, (.str k t)] (getItem (.ref d) (.str k t)) := by with_unfolding_all rfl) :
    wpAny (model PG w) A (subscriptTail value slice (.ref d) (.str k t)) Q E s :=
  kdt_tail N hm hk (kdt_getItem N hm hk (strKind_is _ _ k t) hv h) hs
end
structure FeedOk (w : World) (news : Led) (reg : Reg) (f : Addr) (cells : List Int) (k : Nat) (d : Obj) (t : Tok) (ca : Addr) (vs : List Value) (c : Nat) : Prop where
  dict : (f, d) ∈ news
  six : reg f = 6
  is : d.IsDictOf (strKind PG w) (fkvs (.ref ca) (.int (k : Int) t))
  list : (ca, lisO vs c) ∈ news
  two : reg ca = 2
  vals : IntsAre vs cells
noncomputable def FeedR (w : World) (news : Led) (reg : Reg) (f : Addr) (cells : List Int) (k : Nat) : Prop := ∃ d t ca vs c, FeedOk w news reg f cells k d t ca vs c
theorem FeedR.gr {R reg news reg' news' f cells k} (h : FeedR w news reg f cells k) (g : Gw R reg news reg' news') (n6 : ¬ R 6) (n2 : ¬ R 2) : FeedR w news' reg' f cells k := by
  obtain ⟨d, t, ca, vs, c, a⟩ := h
  exact ⟨d, t, ca, vs, c, g.at a.dict a.six n6, g.regw a.dict a.six n6, a.is, g.at a.list a.two n2, g.regw a.list a.two n2, a.vals⟩
noncomputable def drawn (cells : List Int) (k wide : Nat) : Nat := match cells[k]? with
  | some x => (x % (wide : Int)).toNat
  | none => (5 * k * k + 11 * k + 7 * cells.length + 4) % 109 % wide
theorem drawn_lt {cells : List Int} {k wide : Nat} (h : k < cells.length) (hw : 0 < wide) : (cells[k]).fmod (wide : Int) = (drawn cells k wide : Nat) := by
  rw [Int.fmod_eq_emod_of_nonneg _ (by omega)]
  unfold drawn
  rw [List.getElem?_eq_getElem h]
  show _ = ((cells[k] % (wide : Int)).toNat : Int)
  rw [Int.toNat_of_nonneg (Int.emod_nonneg _ (by omega))]
theorem drawn_ge {cells : List Int} {k wide : Nat} (h : cells.length ≤ k) (hw : 0 < wide) : ((5 * (k : Int) * k + 11 * k + 7 * cells.length + 4).fmod 109).fmod (wide : Int) = (drawn cells k wide : Nat) := by
  rw [Int.fmod_eq_emod_of_nonneg _ (by omega), Int.fmod_eq_emod_of_nonneg _ (by omega)]
  unfold drawn
  rw [List.getElem?_eq_none h]
  show _ = (((5 * k * k + 11 * k + 7 * cells.length + 4) % 109 % wide : Nat) : Int)
  push_cast
  rfl
theorem drawn_bound {cells : List Int} {k wide : Nat} (hw : 0 < wide) : drawn cells k wide < wide := by
  unfold drawn
  split
  · have h1 := Int.emod_lt_of_pos (a := ‹Int›) (b := (wide : Int)) (by omega)
    have h2 := Int.emod_nonneg (a := ‹Int›) (b := (wide : Int)) (by omega)
    omega
  · exact Nat.mod_lt _ hw
theorem ints_atv : ∀ {vs : List Value} {ns : List Int} {k : Nat} {n : Int}, IntsAre vs ns → ns[k]? = some n → ∃ t, vs[k]? = some (.int n t)
  | _, _, 0, _, .cons .., h => by simp at h; subst h; exact ⟨_, rfl⟩
  | _, _, k + 1, _, .cons _ _ r, h => by simpa using ints_atv r (by simpa using h)
  | _, _, _, _, .nil, h => by simp at h
theorem draw (f : Addr) (cells : List Int) (k wide : Nat) (t : Tok) (hw : 0 < wide) (hc : cells.length ≤ 48) (hk9 : k ≤ 100000) (hw9 : wide ≤ 100000) : Ctr w mean mg mb 538 1 60 [.ref f, .int wide t]
   (fun news reg => FeedR w news reg f cells k)
   (fun news reg r news' reg' => (∃ t, r = .int (drawn cells k wide : Nat) t) ∧ FeedR w news' reg' f cells (k + 1) ∧ Gr (fun k => k = 6) reg news reg' news') := by
  unfold Ctr
  k_fill
  intro dp un gd cn cs a₀ ccd cl outer A₀ base h₀ L m news reg s Q E B F X N T hk hpre hdp hun hret
  refine bc fun z9 => ?_
  refine ex5 hpre fun d t1 ca vs c a => ?_; try clear hpre
  refine z9 ?_; clear z9; try k_unmd
  have h1 := a.dict
  have h2 := a.list
  have hl := a.vals.length
  k_dflt ktr_enter
  refine' (let AA := _; let EE := _; let TT : Nat := _; (?_ : wpAny _ AA _ _ EE ⟨_, _, _, TT, _⟩))
  with_reducible rename Fr _ _ _ _ => kF
  refine' (let mm : Str → Option Value := _; (fun (kF : Fr _ _ _ mm) => ?_) kF); try k_unmd
  walk_at "NM"
  walk_at "S"
  refine' fget_N ?N h1 a.is (fkvs_at _ _) ?_ ?hs
  (case N => k_asm); (case hs => with_unfolding_all rfl)
  walk_at "S"
  refine fset_N (r := 6) (reg := reg) (by k_asm) (by k_asm) h1 a.six a.is fun h3 news3 o3 tk3 F3 N3 g3 m3 d3 => ?_
  k_sweep
  have h4 := g3.at h2 a.two (by walk_at "NR")
  have r4 := g3.toGr.regw h2 a.two (by walk_at "NR")
  walk_at "S"
  refine' fget_N ?N m3 d3 (fkvs_cells _ _) ?_ ?hs
  (case N => k_asm); (case hs => with_unfolding_all rfl)
  walk_at "S"
  refine llen_N (by k_asm) h4 hl (by omega) fun t5 tk5 => ?_
  walk_at "S"
  · rename _ < _ => hlt
    refine' fget_N ?N m3 d3 (fkvs_cells _ _) ?_ ?hs
    (case N => k_asm); (case hs => with_unfolding_all rfl)
    walk_at "S"
    have hlt' : k < cells.length := by omega
    obtain ⟨t6, e6⟩ := ints_atv a.vals (List.getElem?_eq_getElem hlt')
    refine' item_list (items := vs.toArray) (k := (k : Int)) ⟨_, News.get (by k_asm) h4, rfl, _, rfl⟩ ?h0 ?hf (by simpa using e6) ?_ ?hs ?hg
    (case h0 => omega); (case hf => omega); (case hs => with_unfolding_all rfl); (case hg => intro _; with_unfolding_all rfl)
    walk_at "S"
    have hF : FeedR w news3 reg f cells (k + 1) := ⟨o3, _, ca, vs, c, m3, a.six, d3, h4, a.two, a.vals⟩
    rw [drawn_lt hlt' hw]
    exact hret _ news3 reg _ _ (by k_asm) (by k_asm) ⟨⟨_, rfl⟩, hF, g3.toGr⟩
  · rename ¬ _ => hlt
    refine' fget_N ?N m3 d3 (fkvs_cells _ _) ?_ ?hs
    (case N => k_asm); (case hs => with_unfolding_all rfl)
    walk_at "S"
    refine llen_N (by k_asm) h4 hl (by omega) fun t7 tk7 => ?_
    walk_at "S"
    have hF : FeedR w news3 reg f cells (k + 1) := ⟨o3, _, ca, vs, c, m3, a.six, d3, h4, a.two, a.vals⟩
    rw [drawn_ge (by omega) hw]
    exact hret _ news3 reg _ _ (by k_asm) (by k_asm) ⟨⟨_, rfl⟩, hF, g3.toGr⟩
end
section
variable {w : World} {mean : ExcName → Option Value} {mg mb : Str → Option Value}
noncomputable def opA (i : Nat) : Str := if i = 0 then Str.ofString "a" else Str.ofString "b"
noncomputable def ltree (cells : List Int) : Nat → Nat → Tr × Nat
  | 0, k => (.leaf (opA (drawn cells k 2)), k + 1)
  | d + 1, k =>
    if drawn cells k 5 < 2 then (.leaf (opA (drawn cells k 5)), k + 1)
    else if drawn cells k 5 = 4 then (.two (Str.ofString "f") (ltree cells d (k + 1)).1 (ltree cells d (ltree cells d (k + 1)).2).1, (ltree cells d (ltree cells d (k + 1)).2).2)
    else (.one (Str.ofString "f") (ltree cells d (k + 1)).1, (ltree cells d (k + 1)).2)
noncomputable def LtreeC (w : World) (mean : ExcName → Option Value) (mg mb : Str → Option Value) (d : Nat) : Prop := ∀ (f : Addr) (cells : List Int) (k : Nat) (t : Tok), cells.length ≤ 48 → k + 2 ^ (d + 2) ≤ 100000 → Ctr w mean mg mb 543 (20 * d + 3) (400 * d + 200) [.ref f, .int (d : Int) t]
   (fun news reg => FeedR w news reg f cells k)
   (fun news reg r news' reg' => DT news' reg' r (ltree cells d k).1.dat ∧ FeedR w news' reg' f cells (ltree cells d k).2 ∧ Gr (fun k => k = 6) reg news reg' news')
theorem ltree_k (cells : List Int) : ∀ d k, (ltree cells d k).2 + 1 ≤ k + 2 ^ (d + 1)
  | 0, k => by simp [ltree]
  | d + 1, k => by
    have h1 := ltree_k cells d (k + 1)
    have h2 := ltree_k cells d (ltree cells d (k + 1)).2
    have h3 : 2 ^ (d + 1 + 1) = 2 ^ (d + 1) + 2 ^ (d + 1) := by rw [Nat.pow_succ]; omega
    have h4 := Nat.two_pow_pos (d + 1)
    unfold ltree
    split
    · show k + 1 + 1 ≤ _; have : 2 ≤ 2 ^ (d + 1) := by rw [Nat.pow_succ]; exact Nat.mul_le_mul_right 2 (Nat.two_pow_pos d)
      rw [h3]; clear h1 h2 h3
      generalize 2 ^ (d + 1) = P at *
      omega
    · rw [h3]; clear h3
      generalize 2 ^ (d + 1) = P at *
      split
      · show (ltree cells d (ltree cells d (k + 1)).2).2 + 1 ≤ _; omega
      · show (ltree cells d (k + 1)).2 + 1 ≤ _; omega
noncomputable def forest (cells : List Int) (d : Nat) : Nat → Nat → List Tr × Nat
  | 0, k => ([], k)
  | n + 1, k => ((forest cells d n k).1 ++ [(ltree cells d (forest cells d n k).2).1], (ltree cells d (forest cells d n k).2).2)
theorem forest_k (cells : List Int) (d k : Nat) : ∀ n, n ≤ 1 → (forest cells d n k).2 ≤ k + 2 ^ (d + 1) - 1
  | 0, _ => by exact Nat.le_sub_one_of_lt (Nat.lt_add_of_pos_right (Nat.two_pow_pos (d + 1)))
  | 1, _ => by exact Nat.le_sub_of_add_le (ltree_k cells d k)
theorem News.top {h₀ h : Heap} {L : Addr} {q : Addr × Obj} {news : Led} (N : News h₀ L h (q :: news)) : ∃ N0, News h₀ L h N0 ∧ q ∈ N0 ∧ ∀ p ∈ news, p ∈ N0 := ⟨_, N, .head _, fun _ h => .tail _ h⟩
theorem ltree_zero : LtreeC w mean mg mb 0 := by
  intro f cells k t hc hk9
  unfold Ctr
  k_fill
  intro dp un gd cn cs a₀ ccd cl outer A₀ base h₀ L m news reg s Q E B F X N T hk hpre hdp hun hret
  k_dflt (refine' code_defC ?k1 ?k2 ?k3 ?k4 ?k5 ?kA ?kF ?kK ?k6 ?k7 ?k8 ?k9 ?kB ?kD ?_ ?c2 ?c3 ?c4; (case kA => exact rfl); (case kF => exact rfl); (case kK => assumption); (case k1 => k_asm); (case k2 => k_asm); (case k3 => k_asm); (case k4 => k_asm); (case k5 => k_asm); (case k6 => k_is); (case k7 => k_is); (case k8 => ktr_room); (case k9 => exact BindsTo.of_eq rfl); (case kB => exact rfl); (case kD => decide +kernel); (case c2 => exact rfl); (case c3 => exact rfl); (case c4 => exact rfl); k_whole; intro g' L' h' tk' cells' FG' F' N' Y' B' X' T' l1; k_cells Y'; (try simp only [List.cons_append, List.nil_append] at N'); (try dsimp only); (try k_fold))
  refine' (let AA := _; let EE := _; let QQ := _; let TT : Nat := _; (?_ : wpAny _ AA _ QQ EE ⟨_, _, _, TT, _⟩))
  refine' (let mm : Str → Option Value := _; (fun (F' : Fr _ _ _ mm) => ?_) F'); try k_unmd
  rename_i o1 o2 d1 d2
  refine bc fun z9 => ?_
  obtain ⟨reg1, g1, rc⟩ := Gr.fresh (R := fun _ => False) (reg := reg) (k := 3) (o := o2) (fun p hp => Nat.lt_succ_of_lt (l1 p hp))
  refine z9 ?_; clear z9; try k_unmd
  obtain ⟨reg2, g2, rc2⟩ := Gr.fresh (R := fun _ => False) (reg := reg1) (k := 3) (o := o1) (x := L' + 1 + 1) (news := (L' + 1, o2) :: news) (fun p hp => by
    rcases List.mem_cons.mp hp with rfl | hp
    · exact Nat.lt_succ_self _
    · exact Nat.lt_succ_of_lt (Nat.lt_succ_of_lt (l1 p hp)))
  replace d1 : o1.data = .cell (some (.int ((0 : Nat) : Int) t)) := d1
  replace d2 : o2.data = .cell (some (.ref f)) := d2
  have m1 : (L' + 1 + 1, o1) ∈ (L' + 1 + 1, o1) :: (L' + 1, o2) :: news := .head _
  have m2 : (L' + 1, o2) ∈ (L' + 1 + 1, o1) :: (L' + 1, o2) :: news := .tail _ (.head _)
  have g12 := g1.trans g2
  have hp := hpre.gr g12.toGw id id
  walk_at "S"
  try k_fold
  k_dflt (refine' Ctr.use (reg := reg2) (draw f cells k 2 _ (by decide) hc (by omega) (by decide)) ?B ?F ?X ?N ?T ?k ?pre ?d ?u ?_)
  (case B | F | X | N | T => k_asm); (case k => first | exact rfl | assumption); (case d | u => walk_at "ROOM")
  (case pre => exact hp)
  intro r3 news3 reg3 h3 tk3 F3 N3 hp9; refine bc fun z9 => ?_
  refine el3 hp9 fun hq1 hf3 g3 => ?_; try clear hp9
  obtain ⟨t3, rfl⟩ := hq1
  refine z9 ?_; clear z9; try k_unmd
  try k_sweep
  try dsimp only
  try k_fold
  have hb := drawn_bound (cells := cells) (k := k) (wide := 2) (by decide)
  rcases (show drawn cells k 2 = 0 ∨ drawn cells k 2 = 1 by omega) with e | e
  all_goals rw [e]
  ·
    walk_at "S"
    have hd : (ltree cells 0 k).1.dat = .tuple [.str (Str.ofString "a")] := by
      show PyData.tuple [.str (opA (drawn cells k 2))] = _
      rw [e]; rfl
    refine hret _ _ reg3 _ _ (by k_asm) (by k_asm) ⟨?_, hf3.gr (Gr.sub (R := fun _ => False) (by intro p hp; repeat (first | exact hp | refine List.mem_cons_of_mem _ ?_))).toGw id id, (g12.no.trans g3).trans (Gr.sub (R := fun _ => False) (by intro p hp; repeat (first | exact hp | refine List.mem_cons_of_mem _ ?_))).no⟩
    rw [hd]
    exact .tuple (.head _) (.cons (.str _ _) .nil)
  ·
    walk_at "S"
    have hd : (ltree cells 0 k).1.dat = .tuple [.str (Str.ofString "b")] := by
      show PyData.tuple [.str (opA (drawn cells k 2))] = _
      rw [e]; rfl
    refine hret _ _ reg3 _ _ (by k_asm) (by k_asm) ⟨?_, hf3.gr (Gr.sub (R := fun _ => False) (by intro p hp; repeat (first | exact hp | refine List.mem_cons_of_mem _ ?_))).toGw id id, (g12.no.trans g3).trans (Gr.sub (R := fun _ => False) (by intro p hp; repeat (first | exact hp | refine List.mem_cons_of_mem _ ?_))).no⟩
    rw [hd]
    exact .tuple (.head _) (.cons (.str _ _) .nil)
theorem ltree_succ (d : Nat) (hd9 : d ≤ 2) (ih : LtreeC w mean mg mb d) : LtreeC w mean mg mb (d + 1) := by
  intro f cells k t hc hk9
  unfold Ctr
  k_fill
  intro dp un gd cn cs a₀ ccd cl outer A₀ base h₀ L m news reg s Q E B F X N T hk hpre hdp hun hret
  k_dflt (refine' code_defC ?k1 ?k2 ?k3 ?k4 ?k5 ?kA ?kF ?kK ?k6 ?k7 ?k8 ?k9 ?kB ?kD ?_ ?c2 ?c3 ?c4; (case kA => exact rfl); (case kF => exact rfl); (case kK => assumption); (case k1 => k_asm); (case k2 => k_asm); (case k3 => k_asm); (case k4 => k_asm); (case k5 => k_asm); (case k6 => k_is); (case k7 => k_is); (case k8 => ktr_room); (case k9 => exact BindsTo.of_eq rfl); (case kB => exact rfl); (case kD => decide +kernel); (case c2 => exact rfl); (case c3 => exact rfl); (case c4 => exact rfl); k_whole; intro g' L' h' tk' cells' FG' F' N' Y' B' X' T' l1; k_cells Y'; (try simp only [List.cons_append, List.nil_append] at N'); (try dsimp only); (try k_fold))
  refine' (let AA := _; let EE := _; let QQ := _; let TT : Nat := _; (?_ : wpAny _ AA _ QQ EE ⟨_, _, _, TT, _⟩))
  refine' (let mm : Str → Option Value := _; (fun (F' : Fr _ _ _ mm) => ?_) F'); try k_unmd
  rename_i o1 o2 d1 d2
  refine bc fun z9 => ?_
  obtain ⟨reg1, g1, rc⟩ := Gr.fresh (R := fun _ => False) (reg := reg) (k := 3) (o := o2) (fun p hp => Nat.lt_succ_of_lt (l1 p hp))
  refine z9 ?_; clear z9; try k_unmd
  obtain ⟨reg2, g2, rc2⟩ := Gr.fresh (R := fun _ => False) (reg := reg1) (k := 3) (o := o1) (x := L' + 1 + 1) (news := (L' + 1, o2) :: news) (fun p hp => by
    rcases List.mem_cons.mp hp with rfl | hp
    · exact Nat.lt_succ_self _
    · exact Nat.lt_succ_of_lt (Nat.lt_succ_of_lt (l1 p hp)))
  replace d1 : o1.data = .cell (some (.int ((d + 1 : Nat) : Int) t)) := d1
  replace d2 : o2.data = .cell (some (.ref f)) := d2
  have m1 : (L' + 1 + 1, o1) ∈ (L' + 1 + 1, o1) :: (L' + 1, o2) :: news := .head _
  have m2 : (L' + 1, o2) ∈ (L' + 1 + 1, o1) :: (L' + 1, o2) :: news := .tail _ (.head _)
  have g12 := g1.trans g2
  have hp := hpre.gr g12.toGw id id
  walk_at "S"
  try k_fold
  k_dflt (refine' Ctr.use (reg := reg2) (draw f cells k 5 _ (by decide) hc (by have := Nat.two_pow_pos (d + 1 + 2); omega) (by decide)) ?B ?F ?X ?N ?T ?k ?pre ?d ?u ?_)
  (case B | F | X | N | T => k_asm); (case k => first | exact rfl | assumption); (case d | u => walk_at "ROOM")
  (case pre => exact hp)
  intro r3 news3 reg3 h3 tk3 F3 N3 hp9; refine bc fun z9 => ?_
  refine el3 hp9 fun hq2 hf3 g3 => ?_; try clear hp9
  obtain ⟨t3, rfl⟩ := hq2
  refine z9 ?_; clear z9; try k_unmd
  try k_sweep
  try dsimp only
  try k_fold
  have hb := drawn_bound (cells := cells) (k := k) (wide := 5) (by decide)
  have g123 := g12.no.trans g3
  replace m1 := g3.at m1 rc2 (by decide)
  replace m2 := g3.keep _ m2 (by rw [g2.regs _ (.head _), rc]; decide)
  rcases (show drawn cells k 5 = 0 ∨ drawn cells k 5 = 1 ∨ 2 ≤ drawn cells k 5 by omega) with e | e | e
  ·
    rw [e]
    walk_at "S"
    have hd : (ltree cells (d + 1) k) = (.leaf (Str.ofString "a"), k + 1) := by
      unfold ltree; rw [e]; rfl
    rw [hd] at hret
    exact hret _ _ reg3 _ _ (by k_asm) (by k_asm) ⟨.tuple (.head _) (.cons (.str _ _) .nil), hf3.gr (Gr.sub (R := fun _ => False) (by intro p hp; repeat (first | exact hp | refine List.mem_cons_of_mem _ ?_))).toGw id id, g123.trans (Gr.sub (R := fun _ => False) (by intro p hp; repeat (first | exact hp | refine List.mem_cons_of_mem _ ?_))).no⟩
  ·
    rw [e]
    walk_at "S"
    have hd : (ltree cells (d + 1) k) = (.leaf (Str.ofString "b"), k + 1) := by
      unfold ltree; rw [e]; rfl
    rw [hd] at hret
    exact hret _ _ reg3 _ _ (by k_asm) (by k_asm) ⟨.tuple (.head _) (.cons (.str _ _) .nil), hf3.gr (Gr.sub (R := fun _ => False) (by intro p hp; repeat (first | exact hp | refine List.mem_cons_of_mem _ ?_))).toGw id id, g123.trans (Gr.sub (R := fun _ => False) (by intro p hp; repeat (first | exact hp | refine List.mem_cons_of_mem _ ?_))).no⟩
  ·
    refine bc fun z9 => ?_
    obtain ⟨n, hn, hn2⟩ : ∃ n : Nat, n ≤ 2 ∧ n = if drawn cells k 5 = 4 then 2 else 1 := ⟨_, by split <;> omega, rfl⟩
    refine z9 ?_; clear z9; try k_unmd
    walk_at "S"
    refine call_int_bool ?_
    walk_at "S"
    refine range1_rows (by k_asm) (by k_asm) fun h7 tk7 t7 u7 v7 hr7 F7 N7 hk7 => ?_
    have en : (1 + if ((drawn cells k 5 : Nat) : Int) == 4 then 1 else 0) = (n : Int) := by
      by_cases e4 : drawn cells k 5 = 4
      · rw [hn2, e4]; rfl
      · rw [hn2, if_neg e4, if_neg (by simp; omega)]; rfl
    rw [en] at hr7
    refine bc fun z9 => ?_
    refine ex1 (News.top N7) fun N0 h9 => ?_; refine el3 h9 fun NN0 hT0 hs0 => ?_; clear h9
    refine z9 ?_; clear z9; try k_unmd
    clear N7
    have gs : Gr (fun _ => False) reg3 news3 reg3 N0 := Gr.sub hs0
    walk_at "S"
    refine' comp_range (n := n) (news := N0) (reg := reg3) (fun ys news₁ reg₁ => DTs news₁ reg₁ ys ((forest cells d ys.length (k + 1)).1.map Tr.dat) ∧ FeedR w news₁ reg₁ f cells (forest cells d ys.length (k + 1)).2 ∧ Gr (fun k => k = 6) reg3 N0 reg₁ news₁) ?hh hr7 ?n2 ?F ?N ?J ?mono ?n 3 ?c ?k ?x ?turn ?done
    (case hh => rfl); (case n2 => omega); (case F => k_asm); (case N => k_asm); (case n => rw [sizeLine_eq]; omega)
    (case J => exact ⟨.nil, hf3.gr gs.toGw id id, Gr.refl⟩)
    (case mono => exact fun b ys news₁ reg₁ news' reg' hb h gw l => ⟨h.1.gr gw (by decide), h.2.1.gr gw (by decide) (by decide), h.2.2.lo hb l⟩)
    (case c => decide); (case k => rfl); (case x => rfl)
    case turn =>
      intro ys t8 C oC mC news₁ reg₁ h tk E' hl hp9 hC rC hns hmv F1 N1
      refine bc fun z9 => ?_
      first | refine el3 hp9 fun hy hfy g => ?_ | (refine ex1 hp9 fun hy h9 => ?_; refine el2 h9 fun hfy g => ?_; clear h9) | refine ex2 hp9 fun hy hfy g => ?_ | obtain ⟨hy, hfy, g⟩ := hp9; try clear hp9
      refine z9 ?_; clear z9; try k_unmd
      replace F1 : Fr g' L' h _ := F1
      replace N1 : News g' L' h news₁ := N1
      replace m1 := g.at (hs0 _ m1) ((g3.regs _ (.head _)).trans rc2) (by decide)
      replace m2 := g.at (hs0 _ m2) ((g3.regs _ (.tail _ (.head _))).trans ((g2.regs _ (.head _)).trans rc)) (by decide)
      walk_at "S"
      rw [show (((d + 1 : Nat) : Int) - 1) = (d : Int) by omega]
      have hkf : (forest cells d ys.length (k + 1)).2 + 2 ^ (d + 2) ≤ 100000 := by
        have e0 := Nat.two_pow_pos d
        have e1 := forest_k cells d (k + 1) ys.length (by omega)
        have e2 : 2 ^ (d + 1 + 2) = 2 ^ (d + 2) + 2 ^ (d + 2) := by rw [show d + 1 + 2 = (d + 2) + 1 from rfl, Nat.pow_succ]; omega
        have e3 : 2 ^ (d + 2) = 2 ^ (d + 1) + 2 ^ (d + 1) := by rw [show d + 2 = (d + 1) + 1 from rfl, Nat.pow_succ]; omega
        omega
      try k_fold
      k_dflt (refine' Ctr.use (reg := reg₁) ((ih f cells (forest cells d ys.length (k + 1)).2 _ hc hkf)) ?B ?F ?X ?N ?T ?k ?pre ?d ?u ?_)
      (case B | F | X | N | T => k_asm); (case k => first | exact rfl | assumption); (case d | u => walk_at "ROOM")
      (case pre => exact hfy)
      intro r5 news5 reg5 h5 tk5 F5 N5 hp9; refine bc fun z9 => ?_
      refine el3 hp9 fun hd5 hf5 g5 => ?_; try clear hp9
      refine z9 ?_; clear z9; try k_unmd
      try k_sweep
      try dsimp only
      try k_fold
      walk_at "S"
      refine EltEnd.mk (news₂ := news5) (reg₂ := reg5) (fun k => k = 6) (by k_asm) (by k_asm) (by decide) (g5) ⟨?_, ?_, g.trans g5⟩
      · rw [List.length_append, List.length_singleton]
        unfold forest
        rw [List.map_append]
        exact (hy.gr g5.toGw (by decide)).append (.cons hd5 .nil)
      · rw [List.length_append, List.length_singleton]
        exact hf5
    case done =>
      intro ys D c news₁ reg₁ h tk hl hp9 hD rD ltD F1 N1
      refine bc fun z9 => ?_
      first | refine el3 hp9 fun hy hfy g => ?_ | (refine ex1 hp9 fun hy h9 => ?_; refine el2 h9 fun hfy g => ?_; clear h9) | refine ex2 hp9 fun hy hfy g => ?_ | obtain ⟨hy, hfy, g⟩ := hp9; try clear hp9
      refine z9 ?_; clear z9; try k_unmd
      replace F1 : Fr g' L' h _ := F1
      replace N1 : News g' L' h news₁ := N1
      rw [hl] at hy hfy
      walk_at "S"
      refine tupof_N (by k_asm) (by k_asm) hD (by omega) fun D5 h5 F5 N5 lt5 => ?_
      walk_at "S"
      refine tadd_N (by k_asm) (by k_asm) (.tail _ (g.tup hT0)) (.head _) (by simp; omega) fun r c' h6 news6 F6 N6 sub6 m6 => ?_
      try k_sweep
      walk_at "S"
      have gE : Gr (fun k => k = 6) reg₁ news₁ reg₁ news6 := Gr.cons.trans (Gr.sub sub6)
      refine hret _ news6 reg₁ _ _ (by k_asm) (by k_asm) ⟨?_, ?_, g123.trans (gs.no.trans (g.trans gE))⟩
      · have e : (ltree cells (d + 1) k).1.dat = .tuple (.str (Str.ofString "f") :: (forest cells d n (k + 1)).1.map Tr.dat) := by
          unfold ltree
          rw [if_neg (by omega)]
          by_cases e4 : drawn cells k 5 = 4
          · rw [if_pos e4, hn2, if_pos e4]; rfl
          · rw [if_neg e4, hn2, if_neg e4]; rfl
        rw [e]
        exact .tuple m6 (.cons (.str _ _) (hy.gr gE.toGw (by decide)))
      · have e : (ltree cells (d + 1) k).2 = (forest cells d n (k + 1)).2 := by
          unfold ltree
          rw [if_neg (by omega)]
          by_cases e4 : drawn cells k 5 = 4
          · rw [if_pos e4, hn2, if_pos e4]; rfl
          · rw [if_neg e4, hn2, if_neg e4]; rfl
        rw [e]
        exact (hfy.gr (Gr.cons (R := fun _ => False)).toGw id id).gr (Gr.sub (R := fun _ => False) sub6).toGw id id
theorem ltree_ctr : ∀ d, d ≤ 2 → LtreeC w mean mg mb d
  | 0, _ => ltree_zero
  | d + 1, h => ltree_succ d (by omega) (ltree_ctr d (by omega))
end
section
noncomputable def OpF (x : Str) : Prop := x = Str.ofString "a" ∨ x = Str.ofString "b" ∨ x = Str.ofString "f"
theorem opok_one {x : Str} {c : Nat} (e : x = ⟨#[c]⟩) (h1 : c < 128) (h2 : badSign c = false) (h3 : c ≠ 63) : OpOk x := ⟨c, e, h1, h2, h3⟩
theorem OpF.ok {x : Str} (h : OpF x) : OpOk x := by
  rcases h with rfl | rfl | rfl
  · exact opok_one (c := 97) (by kernel_rfl) (by decide) (by kernel_rfl) (by decide)
  · exact opok_one (c := 98) (by kernel_rfl) (by decide) (by kernel_rfl) (by decide)
  · exact opok_one (c := 102) (by kernel_rfl) (by decide) (by kernel_rfl) (by decide)
theorem opz_ok : OpOk (Str.ofString "z") := opok_one (c := 122) (by kernel_rfl) (by decide) (by kernel_rfl) (by decide)
theorem OpF.str {x : Str} (h : OpF x) : PyData.strOk x = true := by
  rcases h with rfl | rfl | rfl <;> decide +kernel
theorem OpF.z {x : Str} (h : OpF x) : x ≠ Str.ofString "z" := by
  rcases h with rfl | rfl | rfl <;> decide +kernel
noncomputable def Row.fine : Row → Prop
  | .add op _ => OpF op
  | _ => True
theorem Row.fine.good : ∀ {r : Row}, r.fine → r.good
  | .add _ _, h => OpF.str h
  | .same _ _ _, _ => trivial
  | .settle, _ => trivial
structure Good (S : Hs) : Prop where
  told : acts {} S.rows = S
  fits : ActFits {} S.rows
  w : Whs S
  ops : ∀ r ∈ S.rows, r.fine
  nds : ∀ n ∈ S.nodes, OpF n.1
theorem acts_snoc (S : Hs) (l : List Row) (r : Row) : acts S (l ++ [r]) = (acts S l).act r := by
  unfold acts; rw [List.foldl_append]; rfl
theorem ActFits.snoc : ∀ {l : List Row} {S : Hs} {r : Row}, ActFits S l → r.fit (acts S l) → Whs (acts S l) → (acts S l).rows.length + 1 ≤ 1000000 → ActFits S (l ++ [r])
  | [], S, r, _, h1, h2, h3 => ⟨h1, h2, h3, trivial⟩
  | x :: l, S, r, h, h1, h2, h3 => ⟨h.1, h.2.1, h.2.2.1, ActFits.snoc h.2.2.2 h1 h2 h3⟩
theorem ActFits.take : ∀ {l : List Row} {S : Hs} (n : Nat), ActFits S l → ActFits S (l.take n)
  | [], S, n, h => by simpa using h
  | x :: l, S, 0, h => trivial
  | x :: l, S, n + 1, h => ⟨h.1, h.2.1, h.2.2.1, ActFits.take n h.2.2.2⟩
theorem whs_empty : Whs {} := by
  refine ⟨⟨fun i => ?_, ?_⟩, rfl, ?_, ?_, ?_, ?_, ?_, ?_, ?_⟩ <;> simp [roots, rsum]
theorem good_empty : Good {} := ⟨rfl, trivial, whs_empty, (fun r h => nomatch h), (fun n h => nomatch h)⟩
structure Nxt (S S' : Hs) (n : Nat) : Prop where
  good : Good S'
  pre : S.rows <+: S'.rows
  up1 : S.up.length ≤ S'.up.length
  up2 : S'.up.length ≤ S.up.length + n
  rows : S'.rows.length ≤ S.rows.length + n
theorem Nxt.refl {S : Hs} {n : Nat} (G : Good S) : Nxt S S n := ⟨G, List.prefix_refl _, Nat.le_refl _, Nat.le_add_right _ _, Nat.le_add_right _ _⟩
theorem Nxt.trans {S S' S'' : Hs} {n k : Nat} (a : Nxt S S' n) (b : Nxt S' S'' k) : Nxt S S'' (n + k) := ⟨b.good, a.pre.trans b.pre, Nat.le_trans a.up1 b.up1, by have := a.up2; have := b.up2; omega, by have := a.rows; have := b.rows; omega⟩
theorem Nxt.mono {S S' : Hs} {n k : Nat} (a : Nxt S S' n) (h : n ≤ k) : Nxt S S' k := ⟨a.good, a.pre, a.up1, Nat.le_trans a.up2 (by omega), Nat.le_trans a.rows (by omega)⟩
theorem Good.act {S : Hs} {r : Row} (G : Good S) (hf : r.fit S) (hr : r.fine) (hl : S.rows.length + 1 ≤ 1000000) (e : (S.act r).rows = S.rows ++ [r]) (W : Whs (S.act r)) (hn : ∀ n ∈ (S.act r).nodes, OpF n.1) : Good (S.act r) where
  told := by rw [e, acts_snoc, G.told]
  fits := by rw [e]; exact G.fits.snoc (by rw [G.told]; exact hf) (by rw [G.told]; exact G.w) (by rw [G.told]; exact hl)
  w := W
  ops := by
    rw [e]
    intro x hx
    rcases List.mem_append.mp hx with h | h
    · exact G.ops x h
    · rw [List.mem_singleton.mp h]; exact hr
  nds := hn
theorem nxt_add {S : Hs} {nd : Node} (G : Good S) (ho : OpF nd.1) (h2 : nd.2.length ≤ 2) (hk : ∀ k ∈ nd.2, k < S.up.length) (hl : S.up.length < 63) (hr : S.rows.length + 1 ≤ 1000000) : Nxt S (S.wadd nd) 1 := by
  obtain ⟨g, h1, hn⟩ := G.w.wadd h2 hk (by omega)
  cases hi : idx S.nodes (nkey nd) with
  | some i =>
    have e : S.wadd nd = S := by unfold Hs.wadd; rw [hi]
    rw [e]; exact .refl G
  | none =>
    have e : (S.wadd nd).rows = S.rows ++ [.add nd.1 nd.2] := by unfold Hs.wadd; rw [hi]
    have G' : Good (S.act (.add nd.1 nd.2)) := G.act ⟨ho.ok, h2, hk, hl⟩ ho hr e g.w (by
      intro n hm
      have hm : n ∈ (S.wadd nd).nodes := hm
      rw [hn] at hm
      unfold takeN at hm
      rw [hi] at hm
      rcases List.mem_append.mp hm with h | h
      · exact G.nds n h
      · rw [List.mem_singleton.mp h]; exact ho)
    exact ⟨G', by rw [e]; exact List.prefix_append .., g.up1, g.up2, g.rows⟩
theorem nxt_merge {S : Hs} {a b : Nat} {r : Rsn} (G : Good S) (ha : a < S.up.length) (hb : b < S.up.length) (hr : r.below S.up.length) (hl : S.rows.length + 1 ≤ 1000000) : Nxt S (S.wmerge a b r) 1 := by
  have W1 : Whs ({ S with rows := S.rows ++ [Row.same a b r] } : Hs) := G.w.rows_more (by simp)
  obtain ⟨W2, e, en, eu, _⟩ := W1.join (a := a) (b := b) ha hb fun _ => by
    have := G.w.esum
    show S.nE + 1 + roots S ≤ (S.rows ++ [Row.same a b r]).length + S.up.length
    rw [List.length_append, List.length_singleton]; omega
  have G' : Good (S.act (.same a b r)) := G.act ⟨ha, hb, hr⟩ trivial hl e W2 (by
    intro n hm
    have hm : n ∈ (S.wmerge a b r).nodes := hm
    unfold Hs.wmerge at hm
    rw [en] at hm
    exact G.nds n hm)
  exact ⟨G', by show S.rows <+: (S.wmerge a b r).rows; unfold Hs.wmerge; rw [e]; exact List.prefix_append .., Nat.le_of_eq eu.symm, Nat.le_trans (Nat.le_of_eq eu) (Nat.le_add_right _ _), by unfold Hs.wmerge; rw [e]; simp⟩
theorem nxt_settle {S : Hs} (G : Good S) (hl : S.rows.length + 1 ≤ 1000000) : Nxt S S.wsettle 1 := by
  by_cases hw : S.wait = []
  · have e : S.wsettle = S := by unfold Hs.wsettle; rw [if_pos hw]
    rw [e]; exact .refl G
  · have e0 : S.wsettle = ({ S with rows := S.rows ++ [Row.settle] } : Hs).settle := by unfold Hs.wsettle; rw [if_neg hw]
    have W1 : Whs ({ S with rows := S.rows ++ [Row.settle] } : Hs) := G.w.rows_more (by simp)
    obtain ⟨W2, e, en, eu, _⟩ := Whs.settleN W1 (Nat.le_refl _)
    have e' : S.wsettle.rows = S.rows ++ [Row.settle] := by rw [e0]; exact e
    have eu' : S.wsettle.up.length = S.up.length := by rw [e0]; exact eu
    have G' : Good (S.act .settle) := G.act trivial trivial hl e' (by show Whs S.wsettle; rw [e0]; exact W2) (by
      intro n hm
      have hm : n ∈ S.wsettle.nodes := hm
      rw [e0] at hm
      unfold Hs.settle at hm
      rw [en] at hm
      exact G.nds n hm)
    exact ⟨G', by rw [e']; exact List.prefix_append .., Nat.le_of_eq eu'.symm, Nat.le_trans (Nat.le_of_eq eu') (Nat.le_add_right _ _), by rw [e']; simp⟩
noncomputable def Tr.fine : Tr → Prop
  | .leaf op => OpF op
  | .one op t => OpF op ∧ t.fine
  | .two op t u => OpF op ∧ t.fine ∧ u.fine
theorem Tr.fine.ok : ∀ {t : Tr}, t.fine → t.ok
  | .leaf _, h => OpF.ok h
  | .one _ _, h => ⟨h.1.ok, Tr.fine.ok h.2⟩
  | .two _ _ _, h => ⟨h.1.ok, Tr.fine.ok h.2.1, Tr.fine.ok h.2.2⟩
theorem nxt_put : ∀ (t : Tr) {S : Hs}, Good S → t.fine → S.up.length + t.size ≤ 63 → S.rows.length + t.size ≤ 1000000 → Nxt S (t.put S).1 t.size ∧ (t.put S).2 < (t.put S).1.up.length
  | .leaf op, S, G, hf, h, hr => by
    simp only [Tr.size] at h hr
    obtain ⟨_, h1, _⟩ := G.w.wadd (nd := (op, [])) (by simp) (by simp) (by omega)
    exact ⟨nxt_add (nd := (op, [])) G hf (by simp) (by simp) (by omega) (by omega), h1⟩
  | .one op t, S, G, hf, h, hr => by
    simp only [Tr.size] at h hr
    obtain ⟨g1, h1⟩ := nxt_put t G hf.2 (by omega) (by omega)
    have := g1.up2
    have := g1.rows
    obtain ⟨_, h2, _⟩ := g1.good.w.wadd (nd := (op, [(t.put S).2])) (by simp) (by simpa using h1) (by omega)
    exact ⟨g1.trans (nxt_add (nd := (op, [(t.put S).2])) g1.good hf.1 (by simp) (by simpa using h1) (by omega) (by omega)), h2⟩
  | .two op t u, S, G, hf, h, hr => by
    simp only [Tr.size] at h hr
    obtain ⟨g1, h1⟩ := nxt_put t G hf.2.1 (by omega) (by omega)
    have := g1.up2
    have := g1.rows
    obtain ⟨g2, h2⟩ := nxt_put u g1.good hf.2.2 (by omega) (by omega)
    have := g2.up2
    have := g2.up1
    have := g2.rows
    have hk : ∀ k ∈ [(t.put S).2, (u.put (t.put S).1).2], k < (u.put (t.put S).1).1.up.length := by simp; omega
    obtain ⟨_, h3, _⟩ := g2.good.w.wadd (nd := (op, [(t.put S).2, (u.put (t.put S).1).2])) (by simp) hk (by omega)
    exact ⟨(g1.trans g2).trans (nxt_add (nd := (op, [(t.put S).2, (u.put (t.put S).1).2])) g2.good hf.1 (by simp) hk (by omega) (by omega)), h3⟩
noncomputable abbrev NR := List Node × List Row
noncomputable def wrN (N : NR) (nd : Node) : NR := match idx N.1 (nkey nd) with | some _ => N | none => (N.1 ++ [nd], N.2 ++ [Row.add nd.1 nd.2])
noncomputable def Tr.wr : Tr → NR → NR × Nat
  | .leaf op, N => (wrN N (op, []), takeI N.1 (op, []))
  | .one op t, N => let (N1, n1) := t.wr N; (wrN N1 (op, [n1]), takeI N1.1 (op, [n1]))
  | .two op t u, N => let (N1, n1) := t.wr N; let (N2, n2) := u.wr N1; (wrN N2 (op, [n1, n2]), takeI N2.1 (op, [n1, n2]))
noncomputable def wrL : List Tr → NR → NR × List Nat
  | [], N => (N, [])
  | t :: l, N => let (N1, n) := t.wr N; let (N2, ns) := wrL l N1; (N2, n :: ns)
theorem Tr.wr_eq (t : Tr) (N : NR) : t.wr N = (wrN (wrL t.kids N).1 (t.op, (wrL t.kids N).2), takeI (wrL t.kids N).1.1 (t.op, (wrL t.kids N).2)) := by
  cases t <;> rfl
theorem wrL_snoc (l : List Tr) (t : Tr) (N : NR) : wrL (l ++ [t]) N = ((t.wr (wrL l N).1).1, (wrL l N).2 ++ [(t.wr (wrL l N).1).2]) := by
  induction l generalizing N with
  | nil => rfl
  | cons a l ih => simp only [List.cons_append, wrL, ih]
theorem wrN_wadd {S : Hs} {nd : Node} (W : Whs S) (h2 : nd.2.length ≤ 2) (hk : ∀ k ∈ nd.2, k < S.up.length) (hl : S.up.length < 500) : wrN (S.nodes, S.rows) nd = ((S.wadd nd).nodes, (S.wadd nd).rows) := by
  obtain ⟨_, _, hn⟩ := W.wadd h2 hk hl
  rw [hn]
  unfold wrN takeN Hs.wadd
  cases hi : idx S.nodes (nkey nd) <;> simp only [hi]
theorem wr_put : ∀ (t : Tr) {S : Hs}, Good S → t.fine → S.up.length + t.size ≤ 63 → S.rows.length + t.size ≤ 1000000 → t.wr (S.nodes, S.rows) = (((t.put S).1.nodes, (t.put S).1.rows), (t.put S).2)
  | .leaf op, S, G, hf, h, hr => by
    simp only [Tr.size] at h hr
    simp only [Tr.wr, Tr.put, wrN_wadd (nd := (op, [])) G.w (by simp) (by simp) (by omega)]
  | .one op t, S, G, hf, h, hr => by
    simp only [Tr.size] at h hr
    obtain ⟨g1, h1⟩ := nxt_put t G hf.2 (by omega) (by omega)
    have := g1.up2
    have e := wr_put t G hf.2 (by omega) (by omega)
    simp only [Tr.wr, Tr.put, e, wrN_wadd (nd := (op, [(t.put S).2])) g1.good.w (by simp) (by simpa using h1) (by omega)]
  | .two op t u, S, G, hf, h, hr => by
    simp only [Tr.size] at h hr
    obtain ⟨g1, h1⟩ := nxt_put t G hf.2.1 (by omega) (by omega)
    have := g1.up2
    have := g1.rows
    have e := wr_put t G hf.2.1 (by omega) (by omega)
    obtain ⟨g2, h2⟩ := nxt_put u g1.good hf.2.2 (by omega) (by omega)
    have := g2.up2
    have := g2.up1
    have e2 := wr_put u g1.good hf.2.2 (by omega) (by omega)
    have hk : ∀ k ∈ [(t.put S).2, (u.put (t.put S).1).2], k < (u.put (t.put S).1).1.up.length := by simp; omega
    simp only [Tr.wr, Tr.put, e, e2, wrN_wadd (nd := (op, [(t.put S).2, (u.put (t.put S).1).2])) g2.good.w (by simp) hk (by omega)]
theorem back_told {S T : Hs} (G : Good S) (H : Good T) (h : S.rows <+: T.rows) : back (S.rows.length : Int) T = S.rows ∧ acts {} (back (S.rows.length : Int) T) = S ∧ ActFits {} (back (S.rows.length : Int) T) := by
  have e : back (S.rows.length : Int) T = S.rows := by
    unfold back
    rw [Int.toNat_natCast]
    exact (List.prefix_iff_eq_take.mp h).symm
  rw [e]
  exact ⟨rfl, G.told, G.fits⟩
theorem back_all {T : Hs} (H : Good T) (k : Nat) : back ((T.rows.length + k : Nat) : Int) T = T.rows := by
  unfold back
  rw [Int.toNat_natCast]
  exact List.take_of_length_le (by omega)
theorem back_none (T : Hs) : back (-1) T = [] := rfl
theorem alike_self (a : List Row) : alike a a = -1 := by
  unfold alike
  rw [parts_none fun _ _ => rfl, if_pos rfl]
theorem alike_pre {a b : List Row} (h : a <+: b) (hl : a.length < b.length) : alike a b = a.length ∧ alike b a = a.length := by
  have hg : ∀ j, j < a.length → a[j]? = b[j]? := fun j hj => by
    obtain ⟨t, rfl⟩ := h
    rw [List.getElem?_append_left hj]
  have e : min a.length b.length = a.length := by omega
  have e' : min b.length a.length = a.length := by omega
  constructor
  · unfold alike
    rw [e, parts_none fun j hj => by simpa using hg j hj, if_neg (by omega)]
  · unfold alike
    rw [e', parts_none fun j hj => by simpa using (hg j hj).symm, if_neg (by omega)]
theorem alike_snoc {a b : List Row} {r : Row} (h : a <+: b) (hr : r ∉ b) : alike (a ++ [r]) b = a.length ∧ alike b (a ++ [r]) = a.length := by
  have hal := h.length_le
  have hg : ∀ j, j < a.length → (a ++ [r])[j]? = b[j]? := fun j hj => by
    obtain ⟨t, rfl⟩ := h
    rw [List.getElem?_append_left hj, List.getElem?_append_left hj]
  rcases Nat.lt_or_ge a.length b.length with hl | hl
  · have hd : (a ++ [r])[a.length]? ≠ b[a.length]? := fun e => by
      rw [List.getElem?_append_right (Nat.le_refl _), Nat.sub_self] at e
      exact hr (List.mem_of_getElem? e.symm)
    constructor
    · unfold alike
      rw [parts_step (i := a.length) (by simp; omega) (by simpa using hd) (fun j hj => by simpa using hg j hj)]
      simp
    · unfold alike
      rw [parts_step (i := a.length) (by simp; omega) (by simpa using Ne.symm hd) (fun j hj => by simpa using (hg j hj).symm)]
      simp
  · have eq : b.length = a.length := by omega
    constructor
    · unfold alike
      rw [show min (a ++ [r]).length b.length = a.length by simp; omega, parts_none fun j hj => by simpa using hg j hj, if_neg (by simp; omega)]
    · unfold alike
      rw [show min b.length (a ++ [r]).length = a.length by simp; omega, parts_none fun j hj => by simpa using (hg j hj).symm, if_neg (by simp; omega)]
theorem idx_none : ∀ {nodes : List Node} {nd : Node}, (∀ n ∈ nodes, n.1 ≠ nd.1) → idx nodes (nkey nd) = none
  | [], _, _ => rfl
  | p :: r, nd, h => by
    have hp : ¬ nkey p = nkey nd := fun e => by
      have : (Sum.inl p.1 : Atom) = .inl nd.1 := (List.cons.inj e).1
      exact h p (.head _) (Sum.inl.inj this)
    simp [idx, hp, idx_none fun n hn => h n (.tail _ hn)]
theorem put_z {S : Hs} (G : Good S) : ((Tr.leaf (Str.ofString "z")).put S).1.rows = S.rows ++ [.add (Str.ofString "z") []] := by
  have e := idx_none (nodes := S.nodes) (nd := (Str.ofString "z", [])) fun n hn => (G.nds n hn).z
  simp only [Tr.put, Hs.wadd, e]
theorem z_new {S : Hs} (G : Good S) : Row.add (Str.ofString "z") [] ∉ S.rows := fun h => (G.ops _ h).z rfl
end
section
variable {w : World} {mean : ExcName → Option Value} {mg mb : Str → Option Value}
section
variable {A : Around} {E : Value → Shared → Prop} {s : Shared} {h₀ : Heap} {L l : Addr} {m : Str → Option Value} {news : Led} {reg : Reg} {c : Nat} {vs : List Value}
theorem readsAll_at {h : Heap} : ∀ {xs : List PyData} {vs : List Value} {as : List Addr}, PyData.canLayAll0 xs = true → ReadsAll h vs xs as → ∀ {k : Nat} {v : Value}, vs[k]? = some v → ∃ d, xs[k]? = some d ∧ SeqAt.readOf h v = d
  | [], _, _, _, r, k, v, hv => by cases r; simp at hv
  | x :: xs, _, _, hc, r, k, v, hv => by
    have hc' : x.canLay0 = true ∧ PyData.canLayAll0 xs = true := by simpa [PyData.canLayAll0] using hc
    cases r with
    | cons r1 r2 => cases k with
      | zero => cases hv; exact ⟨x, rfl, SeqAt.readOf_eq hc'.1 r1⟩
      | succ k => simpa using readsAll_at hc'.2 r2 (k := k) (by simpa using hv)
theorem lnin_N {x : Value} {ds : List PyData} {d : PyData} {b : Bool} {Q : Value → Shared → Prop} (N : News h₀ L s.heap news) (hm : (l, lisO vs c) ∈ news) (hd : DTs news reg vs ds) (rx : DT news reg x d) (hl : PyData.canLayAll0 ds = true) (hx : d.canLay0 = true)
    (hu : A.units + 1 + d.depth < cLine) (e : (ds.any fun y => PyData.eqv y d) = b) (h : Q (.bool (!b)) s) : wpAny (model PG w) A (compareOp .NotIn x (.ref l)) Q E s := by
  obtain ⟨as, r1⟩ := lis_reads N hm hd
  obtain ⟨bs, r2⟩ := DT.reads N rx
  refine SeqAt.notIn_list_reads r1 r2 hl hx ?_ (by rw [e]; exact h)
  exact Nat.lt_of_le_of_lt (Nat.add_le_add_left (Nat.min_le_right _ _) _) hu
theorem lidx_N {x : Value} {ds : List PyData} {d : PyData} {j : Nat} {Q : Value → Shared → Prop} (N : News h₀ L s.heap news) (hm : (l, lisO vs c) ∈ news) (hd : DTs news reg vs ds) (rx : DT news reg x d) (hl : PyData.canLayAll0 ds = true) (hx : d.canLay0 = true)
    (hu : A.units + 2 + d.depth < cLine) (hz : ds.length ≤ 1000000) {dj : PyData} (hj : ds[j]? = some dj) (hit : PyData.eqv dj d = true) (hno : ∀ i di, i < j → ds[i]? = some di → PyData.eqv di d = false) (h : ∀ t tk, Q (.int (j : Int) t) { s with toks := tk }) :
    wpAny (model PG w) A (call (.builtin "list.index") [.ref l, x]) Q E s := by
  obtain ⟨as, r1⟩ := lis_reads N hm hd
  obtain ⟨bs, r2⟩ := DT.reads N rx
  have hlen := hd.length
  have hjl := (List.getElem?_eq_some_iff.mp hj).1
  cases r1 with
  | list h1 h2 h3 h4 =>
    have e0 := (N _ hm).1
    rw [h1] at e0
    cases e0
    cases h3
    refine call_meets PySem.F.slot_list_index ⟨_, (N _ hm).1, rfl⟩ PySem.F.entry_list_index (PySem.F.args_list_index_2 _ _)
      (SeqAt.list_indexAt l vs.toArray c none #[] x (fun y => PyData.eqv (SeqAt.readOf s.heap y) d) j (by simp; omega) (by omega) ?_ ?_) ⟨(N _ hm).1, ?_, h _ _⟩
    · obtain ⟨d', e1, e2⟩ := readsAll_at hl h4 (k := j) (v := vs.toArray[j]'(by simp; omega)) (by simp)
      rw [hj] at e1
      cases e1
      show PyData.eqv (SeqAt.readOf s.heap _) d = true
      rw [e2]; exact hit
    · intro i hi hlt
      obtain ⟨d', e1, e2⟩ := readsAll_at hl h4 (k := i) (v := vs.toArray[i]'hi) (by simp)
      show PyData.eqv (SeqAt.readOf s.heap _) d = false
      rw [e2]; exact hno i d' hlt e1
    · exact SeqAt.items_eqAt (A := A) h4 r2 hl hx (by
        have := Nat.min_le_right (PyData.depthAll ds) d.depth
        omega)
end
structure Mir (news : Led) (reg : Reg) (ln lr : Addr) (N : NR) : Prop where
  nodes : DatL news reg 7 ln (N.1.map ndat)
  rows : DatL news reg 8 lr (N.2.map Row.dat)
theorem Mir.gr {R reg news reg' news' ln lr N} (h : Mir news reg ln lr N) (g : Gw R reg news reg' news') (n2 : ¬ R 2) (n7 : ¬ R 7) (n8 : ¬ R 8) : Mir news' reg' ln lr N := ⟨h.nodes.gr g n2 n7, h.rows.gr g n2 n8⟩
structure Wnr (N : NR) : Prop where
  ops : ∀ n ∈ N.1, OpF n.1
theorem ndat_pure {n : Node} (h : OpF n.1) : pureD 1 (ndat n) = true := by
  have e : (n.2.map natD).all (pureD 0) = true := by
    rw [List.all_eq_true]
    intro x hx
    obtain ⟨k, _, rfl⟩ := List.mem_map.mp hx
    rfl
  simp only [ndat, pureD, List.all_cons, e, OpF.str h, Bool.and_true]
theorem ndat_inj {a b : Node} (h : ndat a = ndat b) : a = b := by
  obtain ⟨a1, a2⟩ := a
  obtain ⟨b1, b2⟩ := b
  simp only [ndat, PyData.tuple.injEq, List.cons.injEq, PyData.str.injEq] at h
  rw [h.1, nats_inj h.2]
theorem nkey_ndat {a b : Node} : nkey a = nkey b ↔ a = b := by
  refine ⟨fun h => ndat_inj ?_, fun h => h ▸ rfl⟩
  rw [ndat_eq, ndat_eq, h]
theorem nodes_lay {nodes : List Node} (h : ∀ n ∈ nodes, OpF n.1) : PyData.canLayAll0 (nodes.map ndat) = true := by
  induction nodes with
  | nil => rfl
  | cons n l ih =>
    simp only [List.map_cons, PyData.canLayAll0, (pureD_lay 1 _ (ndat_pure (h n (.head _)))).1, ih fun k hk => h k (.tail _ hk), Bool.and_self]
theorem node_eqv {a b : Node} (ha : OpF a.1) (hb : OpF b.1) : PyData.eqv (ndat a) (ndat b) = decide (a = b) := by
  rw [Bool.eq_iff_iff, pureD_eqv 1 _ _ 1 (ndat_pure ha) (ndat_pure hb), decide_eq_true_eq]
  exact ⟨ndat_inj, fun h => h ▸ rfl⟩
theorem idx_some_iff : ∀ {nodes : List Node} {nd : Node} {i : Nat}, idx nodes (nkey nd) = some i → nodes[i]? = some nd ∧ ∀ j n, j < i → nodes[j]? = some n → n ≠ nd
  | p :: r, nd, i, h => by
    unfold idx at h
    split at h
    · rename_i e
      cases h
      exact ⟨by rw [nkey_ndat.mp e]; rfl, fun j n hj => absurd hj (Nat.not_lt_zero _)⟩
    · rename_i e
      obtain ⟨k, hk, rfl⟩ := Option.map_eq_some_iff.mp h
      obtain ⟨h1, h2⟩ := idx_some_iff hk
      refine ⟨by simpa using h1, fun j n hj hn => ?_⟩
      cases j with
      | zero => cases hn; exact fun e' => e (by rw [e'])
      | succ j => exact h2 j n (by omega) (by simpa using hn)
theorem idx_none_iff : ∀ {nodes : List Node} {nd : Node}, idx nodes (nkey nd) = none → nd ∉ nodes
  | [], _, _ => fun h => nomatch h
  | p :: r, nd, h => by
    unfold idx at h
    split at h
    · cases h
    · rename_i e
      have hr := idx_none_iff (Option.map_eq_none_iff.mp h)
      intro hm
      rcases List.mem_cons.mp hm with e' | hm
      · exact e (by rw [e'])
      · exact hr hm
theorem any_node {nodes : List Node} {nd : Node} (h : ∀ n ∈ nodes, OpF n.1) (ho : OpF nd.1) : ((nodes.map ndat).any fun y => PyData.eqv y (ndat nd)) = (idx nodes (nkey nd)).isSome := by
  rw [Bool.eq_iff_iff, List.any_eq_true]
  constructor
  · rintro ⟨y, hy, he⟩
    obtain ⟨n, hn, rfl⟩ := List.mem_map.mp hy
    rw [node_eqv (h n hn) ho, decide_eq_true_eq] at he
    subst he
    cases q : idx nodes (nkey n) with
    | some i => rfl
    | none => exact absurd hn (idx_none_iff q)
  · intro hs
    obtain ⟨i, hi⟩ := Option.isSome_iff_exists.mp hs
    obtain ⟨h1, _⟩ := idx_some_iff hi
    exact ⟨ndat nd, List.mem_map.mpr ⟨nd, List.mem_of_getElem? h1, rfl⟩, by rw [node_eqv ho ho]; exact decide_eq_true rfl⟩
theorem wrN_len (N : NR) (nd : Node) : N.1.length ≤ (wrN N nd).1.length ∧ (wrN N nd).1.length ≤ N.1.length + 1 ∧ (wrN N nd).2.length ≤ N.2.length + 1 := by
  unfold wrN
  cases idx N.1 (nkey nd) <;> simp
theorem wrN_ops {N : NR} {nd : Node} (h : ∀ n ∈ N.1, OpF n.1) (ho : OpF nd.1) : ∀ n ∈ (wrN N nd).1, OpF n.1 := by
  unfold wrN
  cases idx N.1 (nkey nd) with
  | some i => exact h
  | none =>
    intro n hn
    rcases List.mem_append.mp hn with hn | hn
    · exact h n hn
    · rw [List.mem_singleton.mp hn]; exact ho
structure WrG (N N' : NR) (k : Nat) : Prop where
  ops : ∀ n ∈ N'.1, OpF n.1
  len : N'.1.length ≤ N.1.length + k
  rows : N'.2.length ≤ N.2.length + k
theorem WrG.trans {N N' N'' : NR} {a b : Nat} (g : WrG N N' a) (k : WrG N' N'' b) : WrG N N'' (a + b) := ⟨k.ops, by have := g.len; have := k.len; omega, by have := g.rows; have := k.rows; omega⟩
theorem wrN_g {N : NR} {nd : Node} (h : ∀ n ∈ N.1, OpF n.1) (ho : OpF nd.1) : WrG N (wrN N nd) 1 := ⟨wrN_ops h ho, (wrN_len N nd).2.1, (wrN_len N nd).2.2⟩
theorem Tr.wr_g : ∀ (t : Tr) {N : NR}, (∀ n ∈ N.1, OpF n.1) → t.fine → WrG N (t.wr N).1 t.size
  | .leaf op, N, h, hf => wrN_g (nd := (op, [])) h hf
  | .one op t, N, h, hf => by
    have g := t.wr_g h hf.2
    exact g.trans (wrN_g (nd := (op, [(t.wr N).2])) g.ops hf.1)
  | .two op t u, N, h, hf => by
    have g := t.wr_g h hf.2.1
    have g2 := u.wr_g g.ops hf.2.2
    exact (g.trans g2).trans (wrN_g (nd := (op, [(t.wr N).2, (u.wr (t.wr N).1).2])) g2.ops hf.1)
theorem wrL_g : ∀ (l : List Tr) {N : NR}, (∀ n ∈ N.1, OpF n.1) → (∀ t ∈ l, t.fine) → WrG N (wrL l N).1 (l.map Tr.size).sum ∧ (wrL l N).2.length = l.length
  | [], N, h, _ => ⟨⟨h, Nat.le_refl _, Nat.le_refl _⟩, rfl⟩
  | t :: l, N, h, hf => by
    have g := t.wr_g h (hf t (.head _))
    obtain ⟨g2, e⟩ := wrL_g l g.ops fun u hu => hf u (.tail _ hu)
    simp only [List.map_cons, List.sum_cons]
    exact ⟨g.trans g2, by simp [wrL, e]⟩
theorem Tr.fine_iff (t : Tr) : t.fine ↔ OpF t.op ∧ ∀ k ∈ t.kids, k.fine := by cases t <;> simp [Tr.fine, Tr.kids, Tr.op]
noncomputable def LwrC (w : World) (mean : ExcName → Option Value) (mg mb : Str → Option Value) (t : Tr) : Prop := ∀ (M : NR) (ln lr ta : Addr), Ctr w mean mg mb 548 (20 * t.h) (400 * t.h) [.ref ln, .ref lr, .ref ta]
   (fun news reg => Mir news reg ln lr M ∧ DT news reg (.ref ta) t.dat ∧ t.fine ∧ (∀ n ∈ M.1, OpF n.1) ∧ M.1.length + t.size ≤ 1000 ∧ M.2.length + t.size ≤ 1000)
   (fun news reg r news' reg' => (∃ tk, r = .int ((t.wr M).2 : Int) tk) ∧ Mir news' reg' ln lr (t.wr M).1 ∧ Gr (fun k => k = 7 ∨ k = 8) reg news reg' news')
theorem lwr_step (t : Tr) (ih : ∀ k ∈ t.kids, LwrC w mean mg mb k) : LwrC w mean mg mb t := by
  intro M ln lr ta
  unfold Ctr
  k_fill
  intro dp un gd cn cs a₀ ccd cl outer A₀ base h₀ L m news reg s Q E B F X N T hk hpre hdp hun hret
  refine bc fun z9 => ?_
  refine el6 hpre fun hM hd hok hops hup hrw => ?_; try clear hpre
  refine z9 ?_; clear z9; try k_unmd
  obtain ⟨vk, cta, otok, mta, hds⟩ : ∃ vk cta otok, (ta, tupO (.str t.op otok :: vk) cta) ∈ news ∧ DTs news reg vk (t.kids.map Tr.dat) := by
    rw [t.dat_eq] at hd
    cases hd with
    | tuple m r =>
      cases r with
      | cons a b => cases a; exact ⟨_, _, _, m, b⟩
  k_dflt (refine' code_defC ?k1 ?k2 ?k3 ?k4 ?k5 ?kA ?kF ?kK ?k6 ?k7 ?k8 ?k9 ?kB ?kD ?_ ?c2 ?c3 ?c4; (case kA => exact rfl); (case kF => exact rfl); (case kK => assumption); (case k1 => k_asm); (case k2 => k_asm); (case k3 => k_asm); (case k4 => k_asm); (case k5 => k_asm); (case k6 => k_is); (case k7 => k_is); (case k8 => ktr_room); (case k9 => exact BindsTo.of_eq rfl); (case kB => exact rfl); (case kD => decide +kernel); (case c2 => exact rfl); (case c3 => exact rfl); (case c4 => exact rfl); k_whole; intro g' L' h' tk' cells' FG' F' N' Y' B' X' T' l1; k_cells Y'; (try simp only [List.cons_append, List.nil_append] at N'); (try dsimp only); (try k_fold))
  refine' (let AA := _; let EE := _; let QQ := _; let TT : Nat := _; (?_ : wpAny _ AA _ QQ EE ⟨_, _, _, TT, _⟩))
  refine' (let mm : Str → Option Value := _; (fun (F' : Fr _ _ _ mm) => ?_) F'); try k_unmd
  rename_i o1 o2 d1 d2
  refine bc fun z9 => ?_
  obtain ⟨reg1, g1, rc⟩ := Gr.fresh (R := fun _ => False) (reg := reg) (k := 3) (o := o2) (fun p hp => Nat.lt_succ_of_lt (l1 p hp))
  refine z9 ?_; clear z9; try k_unmd
  obtain ⟨reg2, g2, rc2⟩ := Gr.fresh (R := fun _ => False) (reg := reg1) (k := 3) (o := o1) (x := L' + 1 + 1) (news := (L' + 1, o2) :: news) (fun p hp => by
    rcases List.mem_cons.mp hp with rfl | hp
    · exact Nat.lt_succ_self _
    · exact Nat.lt_succ_of_lt (Nat.lt_succ_of_lt (l1 p hp)))
  replace d1 : o1.data = .cell (some (.ref lr)) := d1
  replace d2 : o2.data = .cell (some (.ref ln)) := d2
  have m1 : (L' + 1 + 1, o1) ∈ (L' + 1 + 1, o1) :: (L' + 1, o2) :: news := .head _
  have m2 : (L' + 1, o2) ∈ (L' + 1 + 1, o1) :: (L' + 1, o2) :: news := .tail _ (.head _)
  have g12 := g1.trans g2
  replace hM := hM.gr g12.toGw id id id
  replace hds := hds.gr g12.toGw id
  replace mta := g12.keep _ mta id
  have rc1 : reg2 (L' + 1) = 3 := (g2.regs _ (.head _)).trans rc
  have hvl := hds.length
  rw [List.length_map] at hvl
  have hkl := t.kids_len
  obtain ⟨hop, hoks⟩ := t.fine_iff.mp hok
  have hsz := t.size_eq
  have hh1 : 1 ≤ t.h := by cases t <;> simp [Tr.h]
  walk_at "S"
  refine titem_at (n := 0) (by k_asm) mta rfl (by omega) ?_
  walk_at "S"
  rename News g' L' _ _ => N2
  refine bc fun z9 => ?_
  refine ex1 (News.top N2) fun N0 h9 => ?_; refine el3 h9 fun NN0 hT0 hs0 => ?_; clear h9
  refine z9 ?_; clear z9; try k_unmd
  clear N2
  replace mta := hs0 _ mta
  have gs : Gr (fun _ => False) reg2 ((L' + 1 + 1, o1) :: (L' + 1, o2) :: news) reg2 N0 := Gr.sub hs0
  replace hM := hM.gr gs.toGw id id id
  replace hds := hds.gr gs.toGw id
  replace m1 := hs0 _ m1
  replace m2 := hs0 _ m2
  try dsimp only
  refine' tslice_N ?F ?N mta ?hz ?_ ?hs ?hg
  (case F => k_asm); (case N => k_asm); (case hz => rw [sizeLine_eq]; omega); (case hs => with_unfolding_all rfl); (case hg => intro _; with_unfolding_all rfl)
  intro D3 h3' F3 N3 l3
  have gD : Gr (fun _ => False) reg2 N0 reg2 ((D3, tupO vk 0) :: N0) := Gr.cons
  replace hM := hM.gr gD.toGw id id id
  replace hds := hds.gr gD.toGw id
  replace m1 := List.mem_cons_of_mem (D3, tupO vk 0) m1
  replace m2 := List.mem_cons_of_mem (D3, tupO vk 0) m2
  replace hT0 := List.mem_cons_of_mem (D3, tupO vk 0) hT0
  have g0 : Gr (fun k => k = 7 ∨ k = 8) reg news reg2 ((D3, tupO vk 0) :: N0) := (g12.trans (gs.trans gD)).no
  refine' comp_tup (vs := vk) (c := 0) (news := (D3, tupO vk 0) :: N0) (reg := reg2) (fun ys news₁ reg₁ => Gr (fun k => k = 7 ∨ k = 8) reg2 ((D3, tupO vk 0) :: N0) reg₁ news₁ ∧ Mir news₁ reg₁ ln lr (wrL (t.kids.take ys.length) M).1 ∧ IntsAre ys (nats (wrL (t.kids.take ys.length) M).2)) ?hh ?F ?N ?J ?hat ?mono ?n 3 ?c ?k ?x ?turn ?done
  (case hh => rfl); (case F => k_asm); (case N => k_asm)
  (case J => exact ⟨Gr.refl, hM, .nil⟩)
  (case hat => exact fun ys news reg h => h.1.tup (.head _))
  (case mono => exact fun b ys news₁ reg₁ news' reg' hb h gw l => ⟨h.1.lo hb l, h.2.1.gr gw (by decide) (by decide) (by decide), h.2.2⟩)
  (case n => rw [sizeLine_eq]; omega)
  (case c => decide); (case k => rfl); (case x => rfl)
  case turn =>
    intro ys v C oC mC news₁ reg₁ h tk E' hv hp9 hC rC hns hmv F1 N1
    refine bc fun z9 => ?_
    first | refine el3 hp9 fun g hM1 hy => ?_ | (refine ex1 hp9 fun g h9 => ?_; refine el2 h9 fun hM1 hy => ?_; clear h9) | refine ex2 hp9 fun g hM1 hy => ?_ | obtain ⟨g, hM1, hy⟩ := hp9; try clear hp9
    refine z9 ?_; clear z9; try k_unmd
    replace F1 : Fr g' L' h _ := F1
    replace N1 : News g' L' h news₁ := N1
    have c1 := g.at m1 rc2 (by decide)
    have c2 := g.at m2 rc1 (by decide)
    have hyk : ys.length < t.kids.length := by
      rcases Nat.lt_or_ge ys.length vk.length with q | q
      · omega
      · rw [List.getElem?_eq_none q] at hv; cases hv
    refine bc fun z9 => ?_
    obtain ⟨k, hk⟩ : ∃ k, t.kids[ys.length]? = some k := ⟨_, List.getElem?_eq_getElem hyk⟩
    refine z9 ?_; clear z9; try k_unmd
    have hkm := List.mem_of_getElem? hk
    have hkh := t.kid_h k hkm
    obtain ⟨v', hv', hdk⟩ := hds.get (k := ys.length) (d := k.dat) (by rw [List.getElem?_map, hk]; rfl)
    obtain rfl : v = v' := Option.some.inj (hv.symm.trans hv')
    obtain ⟨kv, rfl⟩ : ∃ kv, v = .ref kv := by
      rw [k.dat_eq] at hdk
      cases hdk with
      | tuple => exact ⟨_, rfl⟩
    replace hdk := hdk.gr g.toGw (by decide)
    have hst : ((t.kids.take (ys.length + 1)).map Tr.size).sum = ((t.kids.take ys.length).map Tr.size).sum + k.size := by
      rw [List.take_add_one, hk]; simp
    have hs1 := sizes_take t.kids (ys.length + 1)
    obtain ⟨gw1, gn1⟩ := wrL_g (t.kids.take ys.length) hops fun x hx => hoks x (List.mem_of_mem_take hx)
    have hu2 := gw1.len
    have hr2 := gw1.rows
    walk_at "S"
    try k_fold
    k_dflt (refine' Ctr.use (ih k hkm (wrL (t.kids.take ys.length) M).1 ln lr kv) ?B ?F ?X ?N ?T ?k ?pre ?d ?u ?_)
    (case B | F | X | N | T => k_asm); (case k => first | exact rfl | assumption); (case d | u => walk_at "ROOM")
    (case pre => exact ⟨hM1, hdk, hoks k hkm, gw1.ops, by omega, by omega⟩)
    intro r5 news5 reg5 h5' tk5 F5 N5 hp9; refine bc fun z9 => ?_
    refine el3 hp9 fun hq1 hM5 g5 => ?_; try clear hp9
    obtain ⟨t5, rfl⟩ := hq1
    refine z9 ?_; clear z9; try k_unmd
    try k_sweep
    try dsimp only
    try k_fold
    refine EltEnd.mk (news₂ := news5) (reg₂ := reg5) (fun k => k = 7 ∨ k = 8) (by k_asm) (by k_asm) (by decide) (g5) ⟨g.trans g5, ?_⟩
    have e : t.kids.take (ys ++ [Value.int ((k.wr (wrL (t.kids.take ys.length) M).1).2 : Int) t5]).length = t.kids.take ys.length ++ [k] := by
      rw [List.length_append, List.length_singleton, List.take_add_one, hk]; rfl
    rw [e, wrL_snoc]
    exact ⟨hM5, ints_snoc hy⟩
  case done =>
    intro ys D c₁ news₁ reg₁ h tk hl hp9 hD rD ltD F1 N1
    refine bc fun z9 => ?_
    first | refine el3 hp9 fun g hM1 hy => ?_ | (refine ex1 hp9 fun g h9 => ?_; refine el2 h9 fun hM1 hy => ?_; clear h9) | refine ex2 hp9 fun g hM1 hy => ?_ | obtain ⟨g, hM1, hy⟩ := hp9; try clear hp9
    refine z9 ?_; clear z9; try k_unmd
    replace F1 : Fr g' L' h _ := F1
    replace N1 : News g' L' h news₁ := N1
    rw [hl, hvl, List.take_length] at hM1 hy
    have c1 := g.at m1 rc2 (by decide)
    have c2 := g.at m2 rc1 (by decide)
    have k1 := g.toGr.reg' m1 rc2
    have k2 := g.toGr.reg' m2 rc1
    obtain ⟨gw1, gn1⟩ := wrL_g t.kids hops hoks
    have hyl := hy.length
    simp only [nats, List.length_map] at hyl
    walk_at "S"
    refine tupof_N (by k_asm) (by k_asm) hD (by omega) fun D5 h5 F5 N5 lt5 => ?_
    walk_at "S"
    refine tadd_N (by k_asm) (by k_asm) (.tail _ (g.tup hT0)) (.head _) (by simp; omega) fun r c' h6 news6 F6 N6 sub6 m6 => ?_
    try k_sweep
    have g6 : Gr (fun _ => False) reg₁ news₁ reg₁ news6 := (Gr.cons (q := (D5, tupO ys 0))).trans (Gr.sub sub6)
    replace c1 := g6.keep _ c1 id
    replace c2 := g6.keep _ c2 id
    replace hM1 := hM1.gr g6.toGw id id id
    refine bc fun z9 => ?_
    refine ex2 hM1.nodes fun vn cn' h9 => ?_; refine el3 h9 fun n1 n2 n3 => ?_; clear h9
    refine z9 ?_; clear z9; try k_unmd
    have hrx : DT news6 reg₁ (.ref r) (ndat (t.op, (wrL t.kids M).2)) := .tuple m6 (.cons (.str _ _) (by rw [nats_dat]; exact DTs.ints hy))
    have hnd : OpF (t.op, (wrL t.kids M).2).1 := hop
    have hndl := (pureD_lay 1 _ (ndat_pure hnd))
    refine bc fun z9 => ?_
    refine ex2 hM1.rows fun vr cr h9 => ?_; refine el3 h9 fun r1 r2 r3 => ?_; clear h9
    refine z9 ?_; clear z9; try k_unmd
    have hlen1 := gw1.len
    have hlen2 := gw1.rows
    have hnl := n3.length
    have hrl := r3.length
    rw [List.length_map] at hnl hrl
    have hany := any_node gw1.ops hnd
    repeat' (first | ((try k_unmd); k_unfold; (try dsimp only)) | ((try dsimp only); (fail_if_success (with_reducible show _root_.PySem.wpAt _ _ _ _ _ _ _)); walk1))
    cases hidx : idx (wrL t.kids M).1.1 (nkey (t.op, (wrL t.kids M).2)) with
    | some i =>
      rw [hidx] at hany
      refine lnin_N (by k_asm) n1 n3 hrx (nodes_lay gw1.ops) hndl.1 (by have := hndl.2; walk_at "ROOM") (b := true) hany ?_
      obtain ⟨i1, i2⟩ := idx_some_iff hidx
      walk_at "S"
      refine lidx_N (by k_asm) n1 n3 hrx (nodes_lay gw1.ops) hndl.1 (by have := hndl.2; walk_at "ROOM") (by simp; omega) (j := i) (dj := ndat (t.op, (wrL t.kids M).2)) (by rw [List.getElem?_map, i1]; rfl) (by rw [node_eqv hnd hnd]; exact decide_eq_true rfl) (fun j dj hj hdj => ?_) fun t7 tk7 => ?_
      · rw [List.getElem?_map] at hdj
        refine bc fun z9 => ?_
        refine ex1 (Option.map_eq_some_iff.mp hdj) fun n h9 => ?_; refine el2 h9 fun hn hq2 => ?_; clear h9
        obtain rfl := hq2
        refine z9 ?_; clear z9; try k_unmd
        rw [node_eqv (gw1.ops n (List.mem_of_getElem? hn)) hnd]
        exact decide_eq_false (i2 j n hj hn)
      walk_at "S"
      have e : t.wr M = ((wrL t.kids M).1, i) := by rw [t.wr_eq]; unfold wrN takeI; rw [hidx]
      rw [e] at hret
      exact hret _ news6 reg₁ _ _ (by k_asm) (by k_asm) ⟨⟨t7, rfl⟩, hM1, g0.trans (g.trans g6.no)⟩
    | none =>
      rw [hidx] at hany
      refine lnin_N (by k_asm) n1 n3 hrx (nodes_lay gw1.ops) hndl.1 (by have := hndl.2; walk_at "ROOM") (b := false) hany ?_
      walk_at "S"
      refine append_N (r := 7) (reg := reg₁) (by k_asm) (by k_asm) n1 n2 (by rw [sizeLine_eq]; omega) fun h8 news8 F8 N8 g8 m8 => ?_
      k_sweep
      have m6' : (r, tupO (.str t.op otok :: ys) c') ∈ news8 := g8.tup m6
      have ta' := g8.fixed _ (g6.keep _ (g.fixed _ (.tail _ mta) (.inl ⟨rfl, _, _, rfl⟩)) id) (.inl ⟨rfl, _, _, rfl⟩)
      replace c1 := g8.at c1 k1 (by decide)
      replace c2 := g8.at c2 k2 (by decide)
      replace r1 := g8.at r1 r2 (by decide)
      replace r3 := r3.gr g8.toGw (by decide)
      replace n3 := n3.gr g8.toGw (by decide)
      replace hrx := hrx.gr g8.toGw (by decide)
      walk_at "S"
      refine titem_at (n := 0) (by k_asm) ta' rfl (by omega) ?_
      walk_at "S"
      try dsimp only
      refine' tslice_N ?F ?N m6' ?hz ?_ ?hs ?hg
      (case F => k_asm); (case N => k_asm); (case hz => rw [sizeLine_eq]; omega); (case hs => with_unfolding_all rfl); (case hg => intro _; with_unfolding_all rfl)
      intro D9 h9 F9 N9 l9
      walk_at "S"
      rename News g' L' _ _ => N10
      refine bc fun z9 => ?_
      refine ex1 (News.top N10) fun N10' h9 => ?_; refine el3 h9 fun NN10 hT10 hs10 => ?_; clear h9
      refine z9 ?_; clear z9; try k_unmd
      clear N10
      have gB : Gr (fun _ => False) reg₁ news8 reg₁ N10' := (Gr.cons (q := (D9, tupO ys 0))).trans (Gr.sub hs10)
      refine append_N (r := 8) (reg := reg₁) (by k_asm) (by k_asm) (hs10 _ (.tail _ r1)) r2 (by rw [sizeLine_eq]; omega) fun h11 news11 F11 N11 g11 m11 => ?_
      k_sweep
      have gC := (gB.mono (S := fun k => k = 8) fun _ e => e.elim).trans g11.toGr
      have mnn := gC.at m8 n2 (by decide)
      have hds11 : DTs news11 reg₁ (vn ++ [.ref r]) (((wrL t.kids M).1.1 ++ [(t.op, (wrL t.kids M).2)]).map ndat) := by
        rw [List.map_append]
        exact (n3.append (.cons hrx .nil)).gr gC.toGw (by decide)
      have hrx11 := hrx.gr gC.toGw (by decide)
      replace c1 := gC.at c1 k1 (by decide)
      replace c2 := gC.at c2 k2 (by decide)
      have hops11 : ∀ n ∈ (wrL t.kids M).1.1 ++ [(t.op, (wrL t.kids M).2)], OpF n.1 := fun n hn => by
        rcases List.mem_append.mp hn with h | h
        · exact gw1.ops n h
        · rw [List.mem_singleton.mp h]; exact hnd
      walk_at "S"
      refine lidx_N (by k_asm) mnn hds11 hrx11 (nodes_lay hops11) hndl.1 (by have := hndl.2; walk_at "ROOM") (by simp; omega) (j := (wrL t.kids M).1.1.length) (dj := ndat (t.op, (wrL t.kids M).2)) (by simp) (by rw [node_eqv hnd hnd]; exact decide_eq_true rfl) (fun j dj hj hdj => ?_) fun t7 tk7 => ?_
      · rw [List.getElem?_map, List.getElem?_append_left hj] at hdj
        refine bc fun z9 => ?_
        refine ex1 (Option.map_eq_some_iff.mp hdj) fun n h9 => ?_; refine el2 h9 fun hn hq3 => ?_; clear h9
        obtain rfl := hq3
        refine z9 ?_; clear z9; try k_unmd
        rw [node_eqv (gw1.ops n (List.mem_of_getElem? hn)) hnd]
        exact decide_eq_false fun e => idx_none_iff hidx (by rw [← e]; exact List.mem_of_getElem? hn)
      walk_at "S"
      have e : t.wr M = (((wrL t.kids M).1.1 ++ [(t.op, (wrL t.kids M).2)], (wrL t.kids M).1.2 ++ [Row.add t.op (wrL t.kids M).2]), (wrL t.kids M).1.1.length) := by rw [t.wr_eq]; unfold wrN takeI; rw [hidx]
      rw [e] at hret
      have hT11 := gC.tup m6'
      have hT12 := g11.tup hT10
      have hT13 := g11.fixed _ (hs10 _ (.head _)) (.inl ⟨rfl, _, _, rfl⟩)
      refine hret _ news11 reg₁ _ _ (by k_asm) (by k_asm) ⟨⟨t7, rfl⟩, ⟨⟨_, _, mnn, n2, hds11⟩, ⟨_, _, m11, r2, ?_⟩⟩, g0.trans (g.trans (g6.no.trans ((g8.toGr.mono fun _ e => .inl e).trans (gC.mono fun _ e => .inr e))))⟩
      dsimp only
      rw [List.map_append]
      exact (r3.gr gC.toGw (by decide)).append (.cons (.tuple hT12 (.cons (.str _ _) (.cons (.str _ _) (.cons (.tuple hT13 (by rw [nats_dat]; exact DTs.ints hy)) .nil)))) .nil)
theorem lwr_ctr (t : Tr) : LwrC w mean mg mb t := by
  induction t with
  | leaf op => exact lwr_step (.leaf op) (fun k hk => nomatch hk)
  | one op t ih =>
    exact lwr_step (.one op t) fun k hk => by
      obtain rfl := List.mem_singleton.mp hk
      exact ih
  | two op t u ih1 ih2 =>
    exact lwr_step (.two op t u) fun k hk => by
      rcases List.mem_cons.mp hk with rfl | hk
      · exact ih1
      · obtain rfl := List.mem_singleton.mp hk
        exact ih2
end
section
variable {w : World} {mean : ExcName → Option Value} {mg mb : Str → Option Value}
noncomputable def DR (o k : Nat) : Prop := (k = 6 ∨ k = 7 ∨ k = 8) ∨ RS o allH k
theorem dr_no {o k : Nat} (ho : 15 ≤ o) (hk : Nat.ble k 14 = true) (h : ([6, 7, 8].contains k) = false) : ¬ DR o k := by
  rintro (e | e)
  · simp at h; omega
  · exact rs_big ho hk e
theorem Gr.dr {o : Nat} {reg news reg' news'} (g : Gr (RS o allH) reg news reg' news') : Gr (DR o) reg news reg' news' := g.mono fun _ e => .inr e
theorem Gr.d6 {o : Nat} {reg news reg' news'} (g : Gr (fun k => k = 6) reg news reg' news') : Gr (DR o) reg news reg' news' := g.mono fun _ e => .inl (.inl e)
theorem Gr.d78 {o : Nat} {reg news reg' news'} (g : Gr (fun k => k = 7 ∨ k = 8) reg news reg' news') : Gr (DR o) reg news reg' news' := g.mono fun _ e => .inl (.inr e)
theorem Gr.d8 {o : Nat} {reg news reg' news'} (g : Gr (fun k => k = 8) reg news reg' news') : Gr (DR o) reg news reg' news' := g.mono fun _ e => .inl (.inr (.inr e))
theorem wmerge_nr {S : Hs} {a b : Nat} {r : Rsn} (W : Whs S) (ha : a < S.up.length) (hb : b < S.up.length) : (S.wmerge a b r).nodes = S.nodes ∧ (S.wmerge a b r).rows = S.rows ++ [Row.same a b r] := by
  have W1 : Whs ({ S with rows := S.rows ++ [Row.same a b r] } : Hs) := W.rows_more (by simp)
  obtain ⟨W2, e, en, eu, _⟩ := W1.join (a := a) (b := b) ha hb fun _ => by
    have := W.esum
    show S.nE + 1 + roots S ≤ (S.rows ++ [Row.same a b r]).length + S.up.length
    rw [List.length_append, List.length_singleton]; omega
  exact ⟨en, e⟩
theorem told_top {h₀ h : Heap} {L d1 : Addr} {news : Led} {t1 t2 : Tok} (reg : Reg) (N : News h₀ L h ((d1, tupO [.str (Str.ofString "told") t1, .str (Str.ofString "t1") t2] 0) :: news)) :
    ∃ NL, News h₀ L h NL ∧ (∀ p ∈ news, p ∈ NL) ∧ DT NL reg (.ref d1) Rsn.told.dat :=
  ⟨_, N, fun _ h => .tail _ h, .tuple (.head _) (.cons (.str _ _) (.cons (.str _ _) .nil))⟩
theorem rule_top {h₀ h : Heap} {L d1 d2 d3 d4 : Addr} {news : Led} {t1 t2 t3 t4 t5 t6 : Tok} {a b : Nat} (reg : Reg) (N : News h₀ L h ((d1, tupO [.str (Str.ofString "rule") t1, .str (Str.ofString "r") t2, .ref d2] 0) :: (d2, tupO [.ref d4, .ref d3] 0) ::
    (d3, tupO [.str (Str.ofString "?y") t3, .int (b : Int) t4] 0) :: (d4, tupO [.str (Str.ofString "?x") t5, .int (a : Int) t6] 0) :: news)) :
    ∃ NL, News h₀ L h NL ∧ (∀ p ∈ news, p ∈ NL) ∧ DT NL reg (.ref d1) (Rsn.rule a b).dat :=
  ⟨_, N, fun _ h => .tail _ (.tail _ (.tail _ (.tail _ h))), .tuple (.head _) (.cons (.str _ _) (.cons (.str _ _) (.cons (.tuple (.tail _ (.head _)) (.cons (.tuple (.tail _ (.tail _ (.tail _ (.head _)))) (.cons (.str _ _) (.cons (.int _ _) .nil))) (.cons (.tuple (.tail _ (.tail _ (.head _))) (.cons (.str _ _) (.cons (.int _ _) .nil))) .nil))) .nil)))⟩
noncomputable def mrRsn (cells : List Int) (k n : Nat) : Rsn := if drawn cells (k + 2) 2 = 0 then .told else .rule (drawn cells k n) (drawn cells (k + 1) n)
theorem law_merged (q o : Nat) (ho : 15 ≤ o) (hq : Nat.ble q 14 = true) (hq6 : ([6, 7, 8].contains q) = false) (f st ln lr : Addr) (cells : List Int) (k : Nat) (S : Hs) (W : Whs S) : Ctr w mean mg mb 555 13 700 [.ref f, .ref st, .ref ln, .ref lr]
   (fun news reg => FeedR w news reg f cells k ∧ StyR w news reg q o st S ∧ Mir news reg ln lr (S.nodes, S.rows) ∧ 0 < S.nodes.length ∧ S.nodes.length ≤ 100 ∧ S.rows.length + 1 ≤ 1000 ∧ cells.length ≤ 48 ∧ k + 3 ≤ 100000)
   (fun news reg r news' reg' => r = .bool true ∧ FeedR w news' reg' f cells (k + 3) ∧ StyR w news' reg' q o st (S.wmerge (drawn cells k S.nodes.length) (drawn cells (k + 1) S.nodes.length) (mrRsn cells k S.nodes.length)) ∧
     Mir news' reg' ln lr (S.nodes, S.rows ++ [Row.same (drawn cells k S.nodes.length) (drawn cells (k + 1) S.nodes.length) (mrRsn cells k S.nodes.length)]) ∧ Gr (DR o) reg news reg' news') := by
  unfold Ctr
  k_fill
  intro dp un gd cn cs a₀ ccd cl outer A₀ base h₀ L m news reg s Q E B F X N T hk hpre hdp hun hret
  refine bc fun z9 => ?_
  refine el8 hpre fun hf hS hM hn0 hn1 hrw hc hk9 => ?_; try clear hpre
  refine ex2 hM.nodes fun vn cn' h9 => ?_; refine el3 h9 fun n1 n2 n3 => ?_; clear h9
  refine z9 ?_; clear z9; try k_unmd
  have hnl : vn.length = S.nodes.length := by have := n3.length; simpa using this
  k_dflt ktr_enter
  refine' (let AA := _; let EE := _; let TT : Nat := _; (?_ : wpAny _ AA _ _ EE ⟨_, _, _, TT, _⟩))
  with_reducible rename Fr _ _ _ _ => kF
  refine' (let mm : Str → Option Value := _; (fun (kF : Fr _ _ _ mm) => ?_) kF); try k_unmd
  walk_at "NM"
  walk_at "S"
  refine llen_N (by k_asm) n1 hnl (by omega) fun t2 tk2 => ?_
  walk_at "S"
  try k_fold
  k_dflt (refine' Ctr.use (draw f cells k S.nodes.length _ hn0 hc (by omega) (by omega)) ?B ?F ?X ?N ?T ?k ?pre ?d ?u ?_)
  (case B | F | X | N | T => k_asm); (case k => first | exact rfl | assumption); (case d | u => walk_at "ROOM")
  (case pre => exact hf)
  intro r3 news3 reg3 h3 tk3 F3 N3 hp9; refine bc fun z9 => ?_
  refine el3 hp9 fun hq1 hf3 g3 => ?_; try clear hp9
  obtain ⟨t3, rfl⟩ := hq1
  refine z9 ?_; clear z9; try k_unmd
  try k_sweep
  try dsimp only
  try k_fold
  have q6 : ¬ q = 6 := fun e => by subst e; simp at hq6
  replace hS := hS.gr g3.toGw q6 (by decide) (by decide) (off_q ho (by rfl))
  replace hM := hM.gr g3.toGw (by decide) (by decide) (by decide)
  clear n1 n2 n3 hnl
  refine bc fun z9 => ?_
  refine ex2 hM.nodes fun vn cn' h9 => ?_; refine el3 h9 fun n1 n2 n3 => ?_; clear h9
  refine z9 ?_; clear z9; try k_unmd
  have hnl : vn.length = S.nodes.length := by have := n3.length; simpa using this
  walk_at "S"
  refine llen_N (by k_asm) n1 hnl (by omega) fun t4 tk4 => ?_
  walk_at "S"
  try k_fold
  k_dflt (refine' Ctr.use (reg := reg3) (draw f cells (k + 1) S.nodes.length _ hn0 hc (by omega) (by omega)) ?B ?F ?X ?N ?T ?k ?pre ?d ?u ?_)
  (case B | F | X | N | T => k_asm); (case k => first | exact rfl | assumption); (case d | u => walk_at "ROOM")
  (case pre => exact hf3)
  intro r5 news5 reg5 h5 tk5 F5 N5 hp9; refine bc fun z9 => ?_
  refine el3 hp9 fun hq2 hf5 g5 => ?_; try clear hp9
  obtain ⟨t5, rfl⟩ := hq2
  refine z9 ?_; clear z9; try k_unmd
  try k_sweep
  try dsimp only
  try k_fold
  replace hS := hS.gr g5.toGw q6 (by decide) (by decide) (off_q ho (by rfl))
  replace hM := hM.gr g5.toGw (by decide) (by decide) (by decide)
  have g35 := g3.trans g5
  clear n1 n2 n3 hnl g3 g5 hf3 hf
  have hb1 := drawn_bound (cells := cells) (k := k) hn0
  have hb2 := drawn_bound (cells := cells) (k := k + 1) hn0
  walk_at "S"
  rename News _ _ _ _ => N6
  refine bc fun z9 => ?_
  refine ex1 (News.top N6) fun N0 h9 => ?_; refine el3 h9 fun NN0 hT0 hs0 => ?_; clear h9
  refine z9 ?_; clear z9; try k_unmd
  clear N6
  have gs : Gr (fun _ => False) reg5 news5 reg5 N0 := Gr.sub hs0
  try k_fold
  k_dflt (refine' Ctr.use (reg := reg5) (draw f cells (k + 2) 2 _ (by decide) hc (by omega) (by decide)) ?B ?F ?X ?N ?T ?k ?pre ?d ?u ?_)
  (case B | F | X | N | T => k_asm); (case k => first | exact rfl | assumption); (case d | u => walk_at "ROOM")
  (case pre => exact hf5.gr gs.toGw id id)
  intro r6 news6 reg6 h6 tk6 F6 N6 hp9; refine bc fun z9 => ?_
  refine el3 hp9 fun hq3 hf6 g6 => ?_; try clear hp9
  obtain ⟨t6, rfl⟩ := hq3
  refine z9 ?_; clear z9; try k_unmd
  try k_sweep
  try dsimp only
  try k_fold
  replace hS := (hS.gr gs.toGw id id id off_no).gr g6.toGw q6 (by decide) (by decide) (off_q ho (by rfl))
  replace hM := (hM.gr gs.toGw id id id).gr g6.toGw (by decide) (by decide) (by decide)
  have g36 := g35.trans (gs.no.trans g6)
  have hb3 := drawn_bound (cells := cells) (k := k + 2) (wide := 2) (by decide)
  refine bc fun z9 => ?_
  refine ex3 (id hS) fun sd x tk0 z => ?_
  refine z9 ?_; clear z9; try k_unmd
  have s1 := z.inst
  have s2 := z.dict
  obtain ⟨HA, zz⟩ := id z.heap
  have s3 := zz.obj.inst
  have s4 := zz.obj.dict
  clear zz
  refine bc fun z9 => ?_
  refine ex2 hM.rows fun vr cr h9 => ?_; refine el3 h9 fun r1 r2 r3 => ?_; clear h9
  refine z9 ?_; clear z9; try k_unmd
  have hrl : vr.length = S.rows.length := by have := r3.length; simpa using this
  walk_at "S"
  rename _ = _ => e0
  rename News _ _ _ _ => N7
  refine bc fun z9 => ?_
  refine ex1 (told_top reg6 N7) fun NL h9 => ?_; refine el3 h9 fun NNL hsL hD => ?_; clear h9
  refine z9 ?_; clear z9; try k_unmd
  clear N7
  have er : mrRsn cells k S.nodes.length = .told := if_pos (by omega)
  rw [← er] at hD
  rotate_left
  rename _ ≠ _ => e0
  rename News _ _ _ _ => N7
  refine bc fun z9 => ?_
  refine ex1 (rule_top reg6 N7) fun NL h9 => ?_; refine el3 h9 fun NNL hsL hD => ?_; clear h9
  refine z9 ?_; clear z9; try k_unmd
  clear N7
  have er : mrRsn cells k S.nodes.length = .rule (drawn cells k S.nodes.length) (drawn cells (k + 1) S.nodes.length) := if_neg (by omega)
  rw [← er] at hD
  rotate_left
  all_goals
    have gL : Gr (fun _ => False) reg6 news6 reg6 NL := Gr.sub hsL
    replace hf6 := hf6.gr gL.toGw id id
    replace hS := hS.gr gL.toGw id id id off_no
    replace hM := hM.gr gL.toGw id id id
    have hH := z.heap.gr gL.toGw id id off_no
    replace g36 := g36.trans gL.no
    replace s1 := hsL _ s1
    replace s2 := hsL _ s2
    replace s3 := hsL _ s3
    replace s4 := hsL _ s4
    replace r1 := hsL _ r1
    replace r3 := r3.gr gL.toGw id
    clear hsL gL z
    try k_fold
    k_dflt (refine' RCtr.use (heap_find o x S (drawn cells k S.nodes.length) _) ?B ?F ?X ?N ?T ?k ?pre ?d ?u ?_)
    (case B | F | X | N | T => k_asm); (case k => first | exact rfl | assumption); (case d | u => walk_at "ROOM")
    (case pre => exact ⟨hH, by rw [W.len]; exact hb1⟩)
    intro r' h' tk' F' N' hp'; (try k_sweep); (first | (obtain ⟨t', e'⟩ := hp'; subst e') | (have e' := hp'; subst e')); (try dsimp only); (try k_fold)
    walk_at "S"
    try k_fold
    k_dflt (refine' RCtr.use (heap_find o x S (drawn cells (k + 1) S.nodes.length) _) ?B ?F ?X ?N ?T ?k ?pre ?d ?u ?_)
    (case B | F | X | N | T => k_asm); (case k => first | exact rfl | assumption); (case d | u => walk_at "ROOM")
    (case pre => exact ⟨hH, by rw [W.len]; exact hb2⟩)
    intro r' h' tk' F' N' hp'; (try k_sweep); (first | (obtain ⟨t', e'⟩ := hp'; subst e') | (have e' := hp'; subst e')); (try dsimp only); (try k_fold)
    walk_at "S"
    refine append_N (r := 8) (reg := reg6) (by k_asm) (by k_asm) (.tail _ r1) r2 (by rw [sizeLine_eq]; omega) fun h10 news10 F10 N10 g10 m10 => ?_
    k_sweep
    have hT := g10.tup (.head _)
    have gC : Gr (fun k => k = 8) reg6 NL reg6 news10 := Gr.cons.trans g10.toGr
    have q8 : ¬ q = 8 := fun e => by subst e; simp at hq6
    replace hf6 := hf6.gr gC.toGw (by decide) (by decide)
    replace hS := hS.gr gC.toGw q8 (by decide) (by decide) (off_q ho (by rfl))
    replace hD := hD.gr gC.toGw (by decide)
    have hM10 : Mir news10 reg6 ln lr (S.nodes, S.rows ++ [Row.same (drawn cells k S.nodes.length) (drawn cells (k + 1) S.nodes.length) (mrRsn cells k S.nodes.length)]) := by
      refine ⟨hM.nodes.gr gC.toGw (by decide) (by decide), ⟨_, _, m10, r2, ?_⟩⟩
      dsimp only
      rw [List.map_append]
      exact (r3.gr gC.toGw (by decide)).append (.cons (.tuple hT (.cons (.str _ _) (.cons (.int _ _) (.cons (.int _ _) (.cons hD .nil))))) .nil)
    refine bc fun z9 => ?_
    refine ex3 (id hS) fun sd' x' tk0' z' => ?_
    refine z9 ?_; clear z9; try k_unmd
    replace s1 := z'.inst
    replace s2 := z'.dict
    clear z' s3 s4 r1 hM
    have hbel : (mrRsn cells k S.nodes.length).below S.up.length := by
      rw [W.len, er]
      first | exact ⟨hb1, hb2⟩ | trivial
    walk_at "S"
    try k_fold
    k_dflt (refine' Ctr.use (reg := reg6) (story_merge q o ho hq st S (drawn cells k S.nodes.length) (drawn cells (k + 1) S.nodes.length) (mrRsn cells k S.nodes.length) _ _ _ W) ?B ?F ?X ?N ?T ?k ?pre ?d ?u ?_)
    (case B | F | X | N | T => k_asm); (case k => first | exact rfl | assumption); (case d | u => walk_at "ROOM")
    (case pre => exact ⟨hS, hD, by rw [W.len]; exact hb1, by rw [W.len]; exact hb2, hbel, by omega⟩)
    intro r11 news11 reg11 h11 tk11 F11 N11 hp9; refine bc fun z9 => ?_
    refine el3 hp9 fun hq4 hS11 g11 => ?_; try clear hp9
    obtain rfl := hq4
    refine z9 ?_; clear z9; try k_unmd
    try k_sweep
    try dsimp only
    try k_fold
    walk_at "S"
    refine hret _ news11 reg11 _ _ (by k_asm) (by k_asm) ⟨?_, hf6.gr g11.toGw (rs_big ho rfl) (rs_big ho rfl), hS11, hM10.gr g11.toGw (rs_big ho rfl) (rs_big ho rfl) (rs_big ho rfl), g36.d6.trans (gC.d8.trans g11.dr)⟩
    by_cases hab : root S.up (drawn cells k S.nodes.length) = root S.up (drawn cells (k + 1) S.nodes.length)
    · simp [hab]
    · simp [hab]; omega
end
section
variable {w : World} {mean : ExcName → Option Value} {mg mb : Str → Option Value}
noncomputable abbrev excO (te : Addr) : Obj := { cls := .ref 60, data := .fields #[.ref te, .none, .none, .none, .bool false, .none] }
noncomputable abbrev tail60 : List Value := [.ref 47, .type "Exception", .type "BaseException", .type "object"]
noncomputable abbrev cls60 : Obj := excClassObj (Str.ofString "TermFault") (Str.ofString "TermFault") 60 59 [.ref 47] tail60 true [] [] false none none (some (.ref 51)) none (some (.str (Str.ofString "TermFault") 234)) (some (.str (Str.ofString "TermFault") 242)) (some (.bool true)) "Exception.__new__"
theorem look60 (w : World) : (KK w.params).lookup 60 = some cls60 := by kernel_rfl
theorem x_slot_get : Slot "wrapper_descriptor" "__get__" "wrapper_descriptor.__get__" := .of (owner := "wrapper_descriptor") (n := "__get__") (by rw [typeLookup_type, builtinLookup_eq_fast]; kernel_rfl) (by decide +kernel) (by decide +kernel) (by decide +kernel)
  (by first | exact .inl (by decide +kernel) | exact .inr (by decide +kernel)) (by rw [isSubtype_type]; kernel_rfl)
theorem x_entry_get : entryFor table "wrapper_descriptor.__get__" = some Builtin.«wrapper_descriptor.__get__» := entryFor_of_tree (by kernel_rfl)
theorem x_getArgs (a b c : Value) : argsOk "wrapper_descriptor.__get__" ⟨[a, b, c], []⟩ := by unfold argsOk; kernel_rfl
theorem x_type_init : typeOf (.builtin "Exception.__init__") = pure (.type "wrapper_descriptor") := by show builtinType _ = _; rw [builtinType_eq_fast]; kernel_rfl
theorem x_super (w : World) : ks_superIn (KK w.params) 60 47 "__init__" = some (some (.builtin "Exception.__init__")) := by kernel_rfl
theorem x_find (w : World) : findIn (KK w.params) (.ref 60) "__init__" = some (some (.ref 37)) := by kernel_rfl
theorem x_type37 (w : World) : typeIn (KK w.params) (.ref 37) = some (.type "function") := by kernel_rfl
theorem x_hasExc : (Value.ref 60 :: tail60).contains (.type "Exception") = true := by simp [tail60]
theorem x_noAttr : (Value.ref 60 :: tail60).contains (.type "AttributeError") = false := by decide +kernel
theorem x_noName : (Value.ref 60 :: tail60).contains (.type "NameError") = false := by decide +kernel
theorem x_self : (Value.ref 60 :: tail60).contains (.ref 60) = true := by simp
section
variable {A : Around} {E : Value → Shared → Prop} {h : Heap} {g : Array GenState} {d : Drawn} {t : Nat} {os : OsState}
theorem x_check_new {v : Value} {Q : Unit → Shared → Prop} (hC : h.get? 60 = some cls60) (hq : Q () ⟨h, g, d, t, os⟩) : wpAny (model PG w) A (checkBuiltinCall "Exception.__new__" ⟨[.ref 60, v], []⟩) Q E ⟨h, g, d, t, os⟩ := by
  have F := PySem.F.excBase_Exception
  have hstar := F.noStar
  simp only [checkBuiltinCall, F.newKind, F.newSplit, F.newRow]
  repeat (first | with_reducible refine wpAny_loadPart_at hC ?_ | (with_reducible refine wpAny_isSubtype_exc hC ?_; rw [x_hasExc]) | with_reducible refine wpAny_staticBase_exc hC ?_ | with_reducible refine wpAny_madeBy_exc hC ?_ | simp only [bne_self_eq_false, Bool.false_eq_true, if_false] | with_reducible (first | refine wpAny_pure ?_ | refine wpAny_bind ?_ | refine wpAny_holding ?_ | refine wpAny_of_eq ‹_› ?_ | refine wpAny_typeOf ‹_› ?_ | refine wpAny_specialOf ‹_› ‹_› ?_ | refine wpAny_isInstance ‹_› ‹_› ?_ | refine wpAny_call ?_ | refine wpAny_alloc' ?_) | ((with_reducible apply wpAny_ite_false); focus (rfl; done)) | ((with_reducible apply wpAny_ite_true); focus (rfl; done)) | ((with_reducible apply wpAny_load'); focus (heap_get; done)) | wp_delta | wp_step)
  exact hq
theorem x_code_new {v : Value} {R : Result → Shared → Prop} (hC : h.get? 60 = some cls60)
    (hq : R (.ok (.ret (.ref (h.objs.size + 1)))) ⟨(h.push { cls := .type "tuple", data := .seq [v].toArray }).push (excO h.objs.size), g, d, t, os⟩) :
    codeAny (model PG w) A (.builtin "Exception.__new__" ⟨[.ref 60, v], []⟩) R ⟨h, g, d, t, os⟩ := by
  have F := PySem.F.excBase_Exception
  have hends := F.ends
  refine codeAny_builtinAt F.entry ?_
  unfold Builtin.«BaseException.__new__»
  refine _root_.PySem.wpAt_bind ?_
  show _root_.PySem.wpAt _ _ _ (stack >>= _) _ _ _
  refine _root_.PySem.wpAt_bind (_root_.PySem.wpAt_stack fun p below => _root_.PySem.wpAt_of_wpAny ?_)
  repeat (first | with_reducible (first | refine wpAny_pure ?_ | refine wpAny_bind ?_ | refine wpAny_holding ?_ | refine wpAny_of_eq ‹_› ?_ | refine wpAny_typeOf ‹_› ?_ | refine wpAny_specialOf ‹_› ‹_› ?_ | refine wpAny_isInstance ‹_› ‹_› ?_ | refine wpAny_call ?_ | refine wpAny_alloc' ?_) | ((with_reducible apply wpAny_ite_false); focus (rfl; done)) | ((with_reducible apply wpAny_ite_true); focus (rfl; done)) | ((with_reducible apply wpAny_load'); focus (heap_get; done)) | wp_delta | wp_step)
  refine _root_.PySem.wpAt_of_wpAny ?_
  rw [F.owner]
  repeat (first | with_reducible refine wpAny_madeHere_exc F.canon hC ?_ | with_reducible refine wpAny_loadPart_at hC ?_ | (with_reducible refine wpAny_isSubtype_exc hC ?_; first | rw [x_hasExc] | rw [x_noAttr] | rw [x_noName]) | with_reducible (first | refine wpAny_pure ?_ | refine wpAny_bind ?_ | refine wpAny_holding ?_ | refine wpAny_of_eq ‹_› ?_ | refine wpAny_typeOf ‹_› ?_ | refine wpAny_specialOf ‹_› ‹_› ?_ | refine wpAny_isInstance ‹_› ‹_› ?_ | refine wpAny_call ?_ | refine wpAny_alloc' ?_) | ((with_reducible apply wpAny_ite_false); focus (rfl; done)) | ((with_reducible apply wpAny_ite_true); focus (rfl; done)) | ((with_reducible apply wpAny_load'); focus (heap_get; done)) | wp_delta | wp_step)
  show R _ _
  rw [Heap.size_push]
  exact hq
theorem x_call {v : Value} {Q : Value → Shared → Prop} (X : (KK w.params).In h)
    (hq : wpAny (model PG w) (A.under (.builtin "type.__call__" ⟨[.ref 60, v], []⟩)) (call (.ref 37) [.ref (h.objs.size + 1), v]) (fun r s' => r = .none ∧ Q (.ref (h.objs.size + 1)) s') E
      ⟨(h.push { cls := .type "tuple", data := .seq [v].toArray }).push (excO h.objs.size), g, d, t, os⟩) :
    wpAny (model PG w) A (call (.ref 60) [v]) Q E ⟨h, g, d, t, os⟩ := by
  have F := PySem.F.excBase_Exception
  have f1 := tc_lookup
  have f2 := tc_bind (.ref 60)
  have hC : h.get? 60 = some cls60 := X _ _ (look60 w)
  have hT : (⟨h, g, d, t, os⟩ : Shared).TypeIs (.ref 60) "type" := ⟨_, hC, rfl⟩
  refine wpAny_call (codeAny_of_tree ?_)
  show wpAny _ _ (callAny (.ref 60) _) _ _ _
  repeat (any_goals (first | assumption | with_reducible refine wpAny_loadPart_at hC ?_ | with_reducible (first | refine wpAny_pure ?_ | refine wpAny_bind ?_ | refine wpAny_holding ?_ | refine wpAny_of_eq ‹_› ?_ | refine wpAny_typeOf ‹_› ?_ | refine wpAny_specialOf ‹_› ‹_› ?_ | refine wpAny_isInstance ‹_› ‹_› ?_ | refine wpAny_call ?_ | refine wpAny_alloc' ?_) | ((with_reducible apply wpAny_ite_false); focus (rfl; done)) | ((with_reducible apply wpAny_ite_true); focus (rfl; done)) | ((with_reducible apply wpAny_load'); focus (heap_get; done)) | wp_delta | wp_step))
  refine ⟨rfl, ?_⟩
  refine codeAny_call_builtin_at (Code.quiet_builtin _ (by decide +kernel)) entry_typeCall (wpAny_check_type_call_sub hC ?_)
  unfold Builtin.«type.__call__»
  repeat (first | with_reducible refine wpAny_loadPart_at hC ?_ | with_reducible refine wpAny_madeBy_exc hC ?_ | with_reducible (first | refine wpAny_pure ?_ | refine wpAny_bind ?_ | refine wpAny_holding ?_ | refine wpAny_of_eq ‹_› ?_ | refine wpAny_typeOf ‹_› ?_ | refine wpAny_specialOf ‹_› ‹_› ?_ | refine wpAny_isInstance ‹_› ‹_› ?_ | refine wpAny_call ?_ | refine wpAny_alloc' ?_) | ((with_reducible apply wpAny_ite_false); focus (rfl; done)) | ((with_reducible apply wpAny_ite_true); focus (rfl; done)) | ((with_reducible apply wpAny_load'); focus (heap_get; done)) | wp_delta | wp_step)
  refine codeAny_call_builtin_code (Code.quiet_builtin _ F.quiet) (x_check_new hC ?_)
  refine x_code_new hC ?_
  show wpAny _ _ _ _ _ _
  have kp : ∀ b o, h.get? b = some o → ((h.push { cls := .type "tuple", data := .seq [v].toArray }).push (excO h.objs.size)).get? b = some o := fun b o e => Heap.get?_push_of_some _ (Heap.get?_push_of_some _ e)
  have hC₁ := kp _ _ hC
  have X₁ : (KK w.params).In ((h.push { cls := .type "tuple", data := .seq [v].toArray }).push (excO h.objs.size)) := X.keeps kp
  have hget : ((h.push { cls := .type "tuple", data := .seq [v].toArray }).push (excO h.objs.size)).get? (h.objs.size + 1) = some (excO h.objs.size) := by heap_get
  unfold isInstance
  repeat (first | with_reducible refine wpAny_loadPart_at hget ?_ | (with_reducible refine wpAny_isSubtype_exc hC₁ ?_; rw [x_self]) | with_reducible (first | refine wpAny_pure ?_ | refine wpAny_bind ?_ | refine wpAny_holding ?_ | refine wpAny_of_eq ‹_› ?_ | refine wpAny_typeOf ‹_› ?_ | refine wpAny_specialOf ‹_› ‹_› ?_ | refine wpAny_isInstance ‹_› ‹_› ?_ | refine wpAny_call ?_ | refine wpAny_alloc' ?_) | ((with_reducible apply wpAny_ite_false); focus (rfl; done)) | ((with_reducible apply wpAny_ite_true); focus (rfl; done)) | ((with_reducible apply wpAny_load'); focus (heap_get; done)) | wp_delta | wp_step)
  show wpAny _ _ (typeLookup (.ref 60) _) _ _ _
  refine (looks_findIn X₁ (x_find w)).here ?_
  refine wpAny_holding (wpAny_bind ?_)
  refine (bind_fn X₁ _ (x_type37 w)).here ?_
  refine wpAny_bind (wpAny_mono hq (fun r s' hr => ?_) fun _ _ x => x)
  obtain ⟨rfl, hQ⟩ := hr
  repeat (first | with_reducible (first | refine wpAny_pure ?_ | refine wpAny_bind ?_ | refine wpAny_holding ?_ | refine wpAny_of_eq ‹_› ?_ | refine wpAny_typeOf ‹_› ?_ | refine wpAny_specialOf ‹_› ‹_› ?_ | refine wpAny_isInstance ‹_› ‹_› ?_ | refine wpAny_call ?_ | refine wpAny_alloc' ?_) | ((with_reducible apply wpAny_ite_false); focus (rfl; done)) | ((with_reducible apply wpAny_ite_true); focus (rfl; done)) | ((with_reducible apply wpAny_load'); focus (heap_get; done)) | wp_delta | wp_step)
  exact hQ
theorem x_along : (((Value.ref 60 :: tail60).dropWhile (· != .ref 47)).drop 1) = [.type "Exception", .type "BaseException", .type "object"] := by decide +kernel
theorem x_alongIn (w : World) : alongIn (KK w.params) "__init__" [.type "Exception", .type "BaseException", .type "object"] = some (some (.builtin "Exception.__init__")) := by kernel_rfl
theorem x_ownIn (w : World) : ownIn (KK w.params) "__init__" (.type "Exception") = some (some (.builtin "Exception.__init__")) := by kernel_rfl
theorem x_opq (w : World) : nsIn (KK w.params) cStatics "thirdparty.any" = some none := by kernel_rfl
theorem x_super_ga {so e : Addr} {tk : Tok} {oe : Obj} {Q : Fin → Shared → Prop} (hso : h.get? so = some (ks_superObj 47 e 60)) (X : (KK w.params).In h) (he : h.get? e = some oe) (hec : oe.cls = .ref 60) (hne : e ≠ 60)
    (hq : Q (.done (.ret (.ref h.objs.size))) ⟨h.push { cls := .type "method-wrapper", data := .fields #[.builtin "Exception.__init__", .ref e] }, g, d, t, os⟩) :
    wpAny (model PG w) A (Builtin.«super.__getattribute__» ⟨[.ref so, .str "__init__" tk], []⟩) Q E ⟨h, g, d, t, os⟩ := by
  have hlk := x_slot_get.lookup
  have hne' : (Value.ref e == Value.ref 60) = false := by simp [hne]
  have hC : h.get? 60 = some cls60 := X _ _ (look60 w)
  have hTf : (⟨h, g, d, t, os⟩ : Shared).TypeIs (.builtin "Exception.__init__") "wrapper_descriptor" := x_type_init
  have hdt : (ks_superObj 47 e 60).data = .fields #[.ref 47, .ref e, .ref 60] := rfl
  have f0 : (#[.ref 47, .ref e, .ref 60] : Array Value)[0]? = some (.ref 47) := rfl
  have f1 : (#[.ref 47, .ref e, .ref 60] : Array Value)[1]? = some (.ref e) := rfl
  have f2 : (#[.ref 47, .ref e, .ref 60] : Array Value)[2]? = some (.ref 60) := rfl
  have hn : (("__init__" : Str) == ("__class__" : Str)) = false := by decide +kernel
  unfold Builtin.«super.__getattribute__»
  iterate 23 (first
    | (with_reducible refine wpAny_field hso hdt f0 ?_) | (with_reducible refine wpAny_field hso hdt f1 ?_) | (with_reducible refine wpAny_field hso hdt f2 ?_)
    | (with_reducible refine ks_wpAny_notOpaque (looks_opaque X (x_opq w)) ?_)
    | (with_reducible refine wpAny_mroOf_exc hC ?_; rw [x_along])
    | (refine ks_forIn_along X (fun _ _ => rfl) rfl ?_ (x_alongIn w))
    | (with_reducible refine wpAny_typeOf hTf ?_)
    | (with_reducible refine wpAny_call_entry x_slot_get hTf x_entry_get ?_ (x_getArgs _ _ _))
    | (with_reducible refine ⟨_, rfl, ?_⟩)
    | (simp only [hn, hne', Bool.or_false, Bool.false_eq_true, if_false])
    | with_reducible (first | refine wpAny_pure ?_ | refine wpAny_bind ?_ | refine wpAny_holding ?_ | refine wpAny_of_eq ‹_› ?_ | refine wpAny_typeOf ‹_› ?_ | refine wpAny_specialOf ‹_› ‹_› ?_ | refine wpAny_isInstance ‹_› ‹_› ?_ | refine wpAny_call ?_ | refine wpAny_alloc' ?_) | ((with_reducible apply wpAny_ite_false); focus (rfl; done)) | ((with_reducible apply wpAny_ite_true); focus (rfl; done)) | ((with_reducible apply wpAny_load'); focus (heap_get; done)) | wp_delta | wp_step
    | dsimp only)
  rw [List.forIn_cons]
  refine _root_.PySem.wpAny_bind (_root_.PySem.wpAny_bind ((looks_ownIn X (x_ownIn w)).here ?_))
  iterate 12 (first
    | (with_reducible refine wpAny_typeOf hTf ?_)
    | (with_reducible refine wpAny_call_entry x_slot_get hTf x_entry_get ?_ (x_getArgs _ _ _))
    | (with_reducible refine ⟨_, rfl, ?_⟩)
    | (simp only [hn, hne', Bool.or_false, Bool.false_eq_true, if_false])
    | with_reducible (first | refine wpAny_pure ?_ | refine wpAny_bind ?_ | refine wpAny_holding ?_ | refine wpAny_of_eq ‹_› ?_ | refine wpAny_typeOf ‹_› ?_ | refine wpAny_specialOf ‹_› ‹_› ?_ | refine wpAny_isInstance ‹_› ‹_› ?_ | refine wpAny_call ?_ | refine wpAny_alloc' ?_) | ((with_reducible apply wpAny_ite_false); focus (rfl; done)) | ((with_reducible apply wpAny_ite_true); focus (rfl; done)) | ((with_reducible apply wpAny_load'); focus (heap_get; done)) | wp_delta | wp_step
    | dsimp only)
  refine _root_.PySem.wpAny_of_eq (a := (Value.builtin "Exception.__init__", some (Value.ref e), some (Value.ref 60))) (by kernel_rfl) ?_
  dsimp only
  refine _root_.PySem.wpAny_bind ?_
  refine _root_.PySem.wpAny_bind ?_
  refine _root_.PySem.wpAny_of_eq (a := (("__init__" : Str), Value.type "Exception")) (by kernel_rfl) ?_
  dsimp only
  unfold isInstance
  repeat (first | (with_reducible refine wpAny_loadPart_at he ?_; rw [hec]) | (with_reducible refine wpAny_isSubtype_exc hC ?_; rw [x_hasExc]) | (simp only [Bool.not_true, Bool.false_eq_true, if_false]) | with_reducible (first | refine wpAny_pure ?_ | refine wpAny_bind ?_ | refine wpAny_holding ?_ | refine wpAny_of_eq ‹_› ?_ | refine wpAny_typeOf ‹_› ?_ | refine wpAny_specialOf ‹_› ‹_› ?_ | refine wpAny_isInstance ‹_› ‹_› ?_ | refine wpAny_call ?_ | refine wpAny_alloc' ?_) | ((with_reducible apply wpAny_ite_false); focus (rfl; done)) | ((with_reducible apply wpAny_ite_true); focus (rfl; done)) | ((with_reducible apply wpAny_load'); focus (heap_get; done)) | wp_delta | wp_step)
  refine ⟨_, rfl, ?_⟩
  repeat (first | with_reducible (first | refine wpAny_pure ?_ | refine wpAny_bind ?_ | refine wpAny_holding ?_ | refine wpAny_of_eq ‹_› ?_ | refine wpAny_typeOf ‹_› ?_ | refine wpAny_specialOf ‹_› ‹_› ?_ | refine wpAny_isInstance ‹_› ‹_› ?_ | refine wpAny_call ?_ | refine wpAny_alloc' ?_) | ((with_reducible apply wpAny_ite_false); focus (rfl; done)) | ((with_reducible apply wpAny_ite_true); focus (rfl; done)) | ((with_reducible apply wpAny_load'); focus (heap_get; done)) | wp_delta | wp_step)
  exact hq
theorem x_getMethod {so e : Addr} {oe : Obj} {pl : Sem Bool} {Q : Value × List Value → Shared → Prop} (hso : h.get? so = some (ks_superObj 47 e 60)) (X : (KK w.params).In h) (he : h.get? e = some oe) (hec : oe.cls = .ref 60) (hne : e ≠ 60)
    (hq : Q (.ref h.objs.size, []) ⟨h.push { cls := .type "method-wrapper", data := .fields #[.builtin "Exception.__init__", .ref e] }, g, d, t + 1, os⟩) :
    wpAny (model PG w) A (getMethod (.ref so) "__init__" pl) Q E ⟨h, g, d, t, os⟩ := by
  have hlk := PySem.F.ks_slot_super_ga.lookup
  have hcan := PySem.F.ks_canon_super_ga
  have hT : ∀ t', (⟨h, g, d, t', os⟩ : Shared).TypeIs (.ref so) "super" := fun _ => ⟨_, hso, rfl⟩
  unfold getMethod
  refine wpAny_bind (wpAny_specialOf (hT _) hlk ?_)
  show wpAny _ _ (if (Manifest.canonical "super.__getattribute__" != "object.__getattribute__") = true then _ else _) _ _ _
  rw [if_pos hcan]
  unfold getAttr getAttrBy
  refine wpAny_bind (wpAny_bind (wpAny_mkText (wpAny_holding (wpAny_bind (wpAny_typeOf (hT _) (wpAny_bind (wpAny_of_eq hlk ?_)))))))
  show wpAny _ _ (getAttrByItsOwn (.ref so) (.str "__init__" t) (.type "super") (.builtin "super.__getattribute__") true false) _ _ _
  unfold getAttrByItsOwn hookBefore callGetattribute boundAndCalled
  refine wpAny_bind (wpAny_of_eq (show (if onTheHeap (.type "super") then typeLookup (.type "super") "__getattr__" else pure none) = pure none from rfl) ?_)
  refine wpAny_bind (wpAny_attempt (wpAny_holding ?_))
  show wpAny _ _ (bindSpecial (.builtin "super.__getattribute__") (.ref so) >>= _) _ _ _
  refine wpAny_bind (wpAny_of_eq (PySem.F.ks_slot_super_ga.bind _) ?_)
  refine wpAny_mono (Q := fun v s' => v = .ref h.objs.size ∧ s' = ⟨h.push { cls := .type "method-wrapper", data := .fields #[.builtin "Exception.__init__", .ref e] }, g, d, t + 1, os⟩) (E := fun _ _ => False)
    (wpAny_call_entry PySem.F.ks_slot_super_ga (hT _) PySem.F.ks_entry_super_ga (x_super_ga hso X he hec hne ⟨_, rfl, rfl, rfl⟩) (PySem.F.ks_gaArgs_super _ _)) (fun v s' hv => ?_) fun _ _ z => z.elim
  obtain ⟨rfl, rfl⟩ := hv
  exact wpAny_pure (wpAny_pure hq)
theorem x_call_mw {mw e te : Addr} {v : Value} {Q : Value → Shared → Prop} (hmw : h.get? mw = some { cls := .type "method-wrapper", data := .fields #[.builtin "Exception.__init__", .ref e] }) (he : h.get? e = some (excO te)) (X : (KK w.params).In h)
    (hq : ∀ h', h'.get? e = some (excO h.objs.size) → (∀ b o, b ≠ e → h.get? b = some o → h'.get? b = some o) → h'.get? h.objs.size = some (tupO [v] 0) → Q .none ⟨h', g, d, t, os⟩) :
    wpAny (model PG w) A (call (.ref mw) [v]) Q E ⟨h, g, d, t, os⟩ := by
  have F := PySem.F.excBase_Exception
  have hC : h.get? 60 = some cls60 := X _ _ (look60 w)
  refine wpAny_call (codeAny_of_tree ?_)
  show wpAny _ _ (callAny (.ref mw) _) _ _ _
  unfold callAny
  refine _root_.PySem.wpAny_bind (wpAny_load hmw ?_)
  repeat (first | with_reducible (first | refine wpAny_pure ?_ | refine wpAny_bind ?_ | refine wpAny_holding ?_ | refine wpAny_of_eq ‹_› ?_ | refine wpAny_typeOf ‹_› ?_ | refine wpAny_specialOf ‹_› ‹_› ?_ | refine wpAny_isInstance ‹_› ‹_› ?_ | refine wpAny_call ?_ | refine wpAny_alloc' ?_) | ((with_reducible apply wpAny_ite_false); focus (rfl; done)) | ((with_reducible apply wpAny_ite_true); focus (rfl; done)) | ((with_reducible apply wpAny_load'); focus (heap_get; done)) | wp_delta | wp_step)
  refine ⟨Code.quiet_builtin _ (by decide +kernel), codeAny_builtin F.initEntry ?_⟩
  unfold Builtin.«BaseException.__init__»
  repeat (first | with_reducible (first | refine wpAny_pure ?_ | refine wpAny_bind ?_ | refine wpAny_holding ?_ | refine wpAny_of_eq ‹_› ?_ | refine wpAny_typeOf ‹_› ?_ | refine wpAny_specialOf ‹_› ‹_› ?_ | refine wpAny_isInstance ‹_› ‹_› ?_ | refine wpAny_call ?_ | refine wpAny_alloc' ?_) | ((with_reducible apply wpAny_ite_false); focus (rfl; done)) | ((with_reducible apply wpAny_ite_true); focus (rfl; done)) | ((with_reducible apply wpAny_load'); focus (heap_get; done)) | wp_delta | wp_step)
  have hes : e ≠ h.objs.size := Nat.ne_of_lt (Heap.lt_size he)
  have he₁ : (h.push { cls := .type "tuple", data := .seq ([v] : List Value).toArray }).get? e = some (excO te) := Heap.get?_push_of_some _ he
  refine hq _ ?_ (fun b o hb hbo => ?_) ?_
  · exact Heap.get?_update_self _ he₁ rfl
  · exact (Heap.get?_update_other _ _ (Ne.symm hb)).trans (Heap.get?_push_of_some _ hbo)
  · exact (Heap.get?_update_other _ _ hes).trans (Heap.get?_push_at rfl rfl)
theorem x_refuse (self : Value) : refuseLoop self "__setattr__" (.ref 60 :: tail60) = pure () := by
  rw [refuseLoop_ref, refuseLoop_ref]
  kernel_rfl
theorem x_sa (w : World) : findIn (KK w.params) (.ref 60) "__setattr__" = some (some (.builtin "object.__setattr__")) := by kernel_rfl
theorem x_what (w : World) : findIn (KK w.params) (.ref 60) "what" = some none := by kernel_rfl
theorem x_obj (w : World) : mroIn (KK w.params) 60 (.type "object") = some true := by kernel_rfl
open PySem.Builtin PySem.Builtin.ObjectAttr in
theorem x_setattr {e te : Addr} {v : Value} {Q : Unit → Shared → Prop} (X : (KK w.params).In h) (he : h.get? e = some (excO te))
    (hq : ∀ h' tk' d', h'.get? e = some { excO te with dict := some d' } → (∀ b o, b ≠ e → h.get? b = some o → h'.get? b = some o) → Q () ⟨h', g, d, tk', os⟩) :
    wpAny (model PG w) A (setAttr (.ref e) "what" v) Q E ⟨h, g, d, t, os⟩ := by
  have hC : h.get? 60 = some cls60 := X _ _ (look60 w)
  have I : InstAt h e (excO te) 60 none := ⟨he, rfl, rfl, trivial⟩
  refine set_plain X I (x_sa w) ?_
  have SF := PySem.F.store_object
  have sub : Looks (model PG w) h (isInstance (.ref e) (.type "object")) true := I.type.andThen (looks_mroIn X (x_obj w))
  refine codeAny_call_builtin SF.slot.plain SF.entry (@check_slot (model PG w) _ _ _ "object.__setattr__" "object" "__setattr__" (.ref e) [.str "what" t, v] [] _ SF.kind SF.split sub (SF.args (.ref e) (.str "what" t) v) ?_)
  rw [osa_eq, refuse_eq]
  refine _root_.PySem.wpAny_bind (_root_.PySem.wpAny_bind (I.type.here (_root_.PySem.wpAny_bind (wpAny_mroOf_exc hC ?_))))
  rw [x_refuse]
  refine wpAny_pure (_root_.PySem.wpAny_bind (I.type.here (_root_.PySem.wpAny_bind ((looks_findIn X (x_what w)).here (_root_.PySem.wpAny_bind ?_)))))
  refine wpAny_pure ?_
  dsimp only
  have hes : e ≠ h.objs.size := Nat.ne_of_lt (Heap.lt_size he)
  have he₁ : (h.push { cls := .type "dict", data := .dict #[] }).get? e = some (excO te) := Heap.get?_push_of_some _ he
  have hgd : ((h.push { cls := .type "dict", data := .dict #[] }).update e fun o => { o with dict := some h.objs.size }).get? h.objs.size = some { cls := .type "dict", data := .dict #[] } :=
    (Heap.get?_update_ne _ _ _ _ hes.symm).trans (Heap.get?_push_at rfl rfl)
  have hnd : ((h.push { cls := .type "dict", data := .dict #[] }).update e fun o => { o with dict := some h.objs.size }).Ns h.objs.size (fun _ => none) :=
    ⟨_, #[], _, hgd, rfl, fun e he => absurd he (by simp), fun _ => rfl⟩
  unfold storeInOwnDict ownDictForStores instanceDict ownStreamTells classData
  generalize hSD : storeInDict = SD
  repeat (first | (with_reducible refine wpAny_loadPart_at he ?_) | (with_reducible refine wpAny_loadPart_at hC ?_) | with_reducible (first | refine wpAny_pure ?_ | refine wpAny_bind ?_ | refine wpAny_holding ?_ | refine wpAny_of_eq ‹_› ?_ | refine wpAny_typeOf ‹_› ?_ | refine wpAny_specialOf ‹_› ‹_› ?_ | refine wpAny_isInstance ‹_› ‹_› ?_ | refine wpAny_call ?_ | refine wpAny_alloc' ?_) | ((with_reducible apply wpAny_ite_false); focus (rfl; done)) | ((with_reducible apply wpAny_ite_true); focus (rfl; done)) | ((with_reducible apply wpAny_load'); focus (heap_get; done)) | wp_delta | wp_step)
  subst hSD
  unfold storeInDict newKeyGuard
  refine _root_.PySem.wpAny_bind (wpAny_pure (_root_.PySem.wpAny_bind (wpAny_nsSet1 (Heap.Ns1.of_empty hnd) fun h' hn' hs => ?_)))
  refine bc fun z9 => ?_
  refine ex3 (hn'.count (Within.cons "what" v Within.nil)) fun oD esD epD h9 => ?_; refine el3 h9 fun hoD hdD hcD => ?_; clear h9
  refine z9 ?_; clear z9; try k_unmd
  refine _root_.PySem.wpAny_bind (wpAny_lookBehind hoD (by rw [hdD]; exact pastItsLine_dict (Nat.le_trans hcD (by rw [List.length_cons, List.length_nil, sizeLine_eq]; omega))) ?_)
  refine wpAny_pure (hq h' _ h.objs.size ?_ fun b o hb hbo => ?_)
  · exact (hs.2 e hes).trans (Heap.get?_update_self _ he₁ rfl)
  · exact (hs.2 b (Nat.ne_of_lt (Heap.lt_size hbo))).trans ((Heap.get?_update_ne _ _ _ _ hb).trans (Heap.get?_push_of_some _ hbo))
end
end
section
variable {w : World} {mean : ExcName → Option Value} {mg mb : Str → Option Value}
noncomputable abbrev excD (te d : Addr) : Obj := { cls := .ref 60, dict := some d, data := .fields #[.ref te, .none, .none, .none, .bool false, .none] }
noncomputable abbrev mwO (e : Addr) : Obj := { cls := .type "method-wrapper", data := .fields #[.builtin "Exception.__init__", .ref e] }
section
variable {A : Around} {E : Value → Shared → Prop} {s : Shared} {h₀ : Heap} {L : Addr} {m : Str → Option Value} {news : Led}
theorem exc_ne {h : Heap} {e te : Addr} (X : (KK w.params).In h) (he : h.get? e = some (excO te)) : e ≠ 60 := fun q => by
  subst q
  rw [X _ _ (look60 w)] at he
  cases he
theorem xm_N {so e te : Addr} {pl : Sem Bool} {Q : Value × List Value → Shared → Prop} (F : Fr h₀ L s.heap m) (X : (KK w.params).In h₀) (N : News h₀ L s.heap news) (hso : (so, ks_superObj 47 e 60) ∈ news) (he : (e, excO te) ∈ news)
    (h : ∀ q h' tk, Fr h₀ L h' m → News h₀ L h' ((q, mwO e) :: news) → Q (.ref q, []) { s with heap := h', toks := tk }) : wpAny (model PG w) A (getMethod (.ref so) "__init__" pl) Q E s := by
  have X' := X.keeps F.keep
  exact x_getMethod (N _ hso).1 X' (N _ he).1 rfl (exc_ne X' (N _ he).1) (h _ _ _ (F.push _) (N.push F _))
theorem xw_N {pos : Pos} {mw e : Addr} {env : Env} {x : Expr} {Q : Value → Shared → Prop} (h : wpAny (model PG w) A (spliced (backTo pos (starEach [x] env))) (fun vs s₁ => s₁.heap.get? mw = some (mwO e) ∧ wpAny (model PG w) A (call (.ref mw) vs) Q E s₁) E s)
    (he : starEach [x] env = (false, eval x env) :: starEach [] env := by rfl) : wpAny (model PG w) A (callWith pos (.ref mw) [] (backTo pos (starEach [x] env)) []) Q E s := by
  rw [he] at h ⊢
  exact callWith_of (P := fun h => h.get? mw = some (mwO e)) rfl (fun h q => ⟨.machine, .inr (.inl rfl), (Looks.ld q).andThen .now⟩) (PySem.Calls.evalArgs_plain h)
theorem oth_top {h : Heap} {e : Addr} {o : Obj} {a b : Addr × Obj} (N : News h₀ L h ((e, o) :: others (a :: b :: news) e)) : ∃ G, News h₀ L h G ∧ (e, o) ∈ G ∧ ∀ p ∈ news, p.1 ≠ e → p ∈ G :=
  ⟨_, N, .head _, fun p hp hne => .tail _ (mem_others (.tail _ (.tail _ hp)) hne)⟩
theorem xc_N {mw e te : Addr} {v : Value} {Q : Value → Shared → Prop} (F : Fr h₀ L s.heap m) (X : (KK w.params).In h₀) (N : News h₀ L s.heap news) (hmw : (mw, mwO e) ∈ news) (he : (e, excO te) ∈ news)
    (h : ∀ te' h', Fr h₀ L h' m → News h₀ L h' ((e, excO te') :: others news e) → Q .none { s with heap := h' }) : wpAny (model PG w) A (call (.ref mw) [v]) Q E s := by
  refine x_call_mw (N _ hmw).1 (N _ he).1 (X.keeps F.keep) fun h' e1 e2 _ => ?_
  obtain ⟨F2, N2⟩ := others_news F N he (h₂ := h') fun b o hb hbo => e2 b o (by simpa using hb) hbo
  exact h _ h' F2 (cons_news N he e1 N2)
theorem xs_N {e te : Addr} {v : Value} {Q : Unit → Shared → Prop} (F : Fr h₀ L s.heap m) (X : (KK w.params).In h₀) (N : News h₀ L s.heap news) (he : (e, excO te) ∈ news)
    (h : ∀ d' h' tk, Fr h₀ L h' m → News h₀ L h' ((e, excD te d') :: others news e) → Q () { s with heap := h', toks := tk }) : wpAny (model PG w) A (setAttr (.ref e) "what" v) Q E s := by
  refine x_setattr (X.keeps F.keep) (N _ he).1 fun h' tk' d' e1 e2 => ?_
  obtain ⟨F2, N2⟩ := others_news F N he (h₂ := h') fun b o hb hbo => e2 b o (by simpa using hb) hbo
  exact h _ h' _ F2 (cons_news N he e1 N2)
end
theorem herr_init (e te : Addr) (x : Str) (t : Tok) : Ctr w mean mg mb 37 4 160 [.ref e, .str x t]
   (fun news reg => (e, excO te) ∈ news)
   (fun news reg r news' reg' => r = .none ∧ (∃ te' d', (e, excD te' d') ∈ news') ∧ ∀ p ∈ news, p.1 ≠ e → p ∈ news') := by
  unfold Ctr
  k_fill
  intro dp un gd cn cs a₀ ccd cl outer A₀ base h₀ L m news reg s Q E B F X N T hk hpre hdp hun hret
  k_dflt (refine' ks_code_super ?k1 ?k2 ?k3 ?k4 ?k5 ?kA ?kF ?kK ?k6 ?k7 ?k8 ?k9 ?kB ?_ ?c1 ?c2 ?c3 ?c4; (case kA => exact rfl); (case kF => exact rfl); (case kK => assumption); (case k1 => k_asm); (case k2 => k_asm); (case k3 => k_asm); (case k4 => k_asm); (case k5 => k_asm); (case k6 => k_is); (case k7 => k_is); (case k8 => ktr_room); (case k9 => exact BindsTo.of_eq rfl); (case kB => exact locs rfl); (case c1 => decide); (case c2 => exact rfl); (case c3 => exact rfl); (case c4 => exact rfl); intro g' L' h' FG' F' N' B' X' T' l1; (try k_lt l1); (try dsimp only); (try k_lift B'))
  walk1
  refine ks_wpAt_Expr_any ?_
  refine ks_wpAt_MethodCall ?_
  k_dflt (refine' ks_node ?s1 ?s2 ?s3 ?s4 ?s5 ?s6 ?s7 ?s8 ?s9 ?s10 ?s11 ?s12 ?s13 ?s14 ?s15 ?s16 ?s17 ?s18 ?s19 ?s20 ?s21 ?s22 ?_; (case s1 => k_asm); (case s2 => k_asm); (case s3 => k_asm); (case s4 => k_asm); (case s5 => k_is); (case s6 => rfl); (case s7 => rfl); (case s8 => exact (show PySem.W.InstAt _ _ (excO te) 60 none from ⟨(News.get N' hpre), rfl, rfl, trivial⟩)); (case s9 => k_is); (case s10 => rfl); (case s11 => first | rfl | decide +kernel); (case s12 => k_is); (case s13 => k_is); (case s14 => k_is); (case s15 => k_is); (case s16 => decide); (case s17 => rfl); (case s18 => rfl); (case s19 => rfl); (case s20 => rfl); (case s21 => decide +kernel); (case s22 => first | boot_by_name | rfl | kernel_rfl); intro so' h' F' N' l1; (try k_lt l1))
  refine xm_N (by k_asm) (by k_asm) (by k_asm) (.head _) (.tail _ hpre) fun mw h3 tk3 F3 N3 => ?_
  refine xw_N (e := e) ?_
  repeat' (first | ((try k_unmd); k_unfold; (try dsimp only)) | ((try dsimp only); (fail_if_success (with_reducible show _root_.PySem.wpAt _ _ _ _ _ _ _)); walk1))
  · exact (N3 _ (.head _)).1
  refine xc_N (te := te) (by k_asm) (by k_asm) (by k_asm) (.head _) (.tail _ (.tail _ hpre)) fun te4 h4 F4 N4 => ?_
  refine bc fun z9 => ?_
  refine ex1 (oth_top N4) fun G4 h9 => ?_; refine el3 h9 fun NG4 m4 hs4 => ?_; clear h9
  refine z9 ?_; clear z9; try k_unmd
  clear N4
  repeat' (first | ((try k_unmd); k_unfold; (try dsimp only)) | ((try dsimp only); (fail_if_success (with_reducible (first | show wpAny _ _ (setAttr _ _ _) _ _ _ | show wpAny _ _ (call _ _ _) _ _ _))); walk1) | (leave1; try dsimp only))
  refine xs_N (te := te4) (by k_asm) (by k_asm) (by k_asm) m4 fun d5 h5 tk5 F5 N5 => ?_
  walk_at "S"
  exact hret .none _ reg _ _ (by k_asm) (by k_asm) ⟨rfl, ⟨te4, d5, .head _⟩, fun p hp hne => .tail _ (mem_others (hs4 p hp hne) hne)⟩
end
section
variable {w : World} {mean : ExcName → Option Value} {mg mb : Str → Option Value}
section
variable {A A₀ : Around} {E : Value → Shared → Prop} {s s' : Shared} {base g g₂ h : Heap} {outer : List Env} {env : Env} {L e : Addr} {m : Str → Option Value} {news : Led}
theorem memE {b : Addr} (hf : env.frame = some L) (hm : b ∈ (env :: outer).filterMap (·.frame)) : b = L ∨ b ∈ outer.filterMap (·.frame) := by
  refine bc fun z9 => ?_
  refine ex1 (List.mem_filterMap.mp hm) fun x h9 => ?_; refine el2 h9 fun he hx => ?_; clear h9
  refine z9 ?_; clear z9; try k_unmd
  rcases List.mem_cons.mp he with rfl | he
  · rw [hf] at hx; exact .inl (Option.some.inj hx).symm
  · exact .inr (List.mem_filterMap.mpr ⟨x, he, hx⟩)
theorem pushE (K : Below A base outer g) (F : Fr g L h m) (hf : env.frame = some L) (hk : env.scope.kind = .function) : Below (A.deeper env) base (env :: outer) h := by
  have hnew : base.get? L = none := by
    cases hq : base.get? L with
    | none => rfl
    | some o => exact absurd (Nat.lt_of_lt_of_le (Heap.lt_size (K.stays L o hq)) F.above) (Nat.lt_irrefl _)
  exact ⟨Around.frames_deeper K.stack, fun b o e => F.keep b o (K.stays b o e), .cons (by rw [hk]; decide) hf F.ns hnew (K.frames.of_keeps fun b o e _ => ⟨o, F.keep b o e, rfl⟩)⟩
theorem leave_fault {te d : Addr} {Q : Unit → Shared → Prop} (K : Below A base outer g) (F : Fr g L s'.heap m) (N : News g L s'.heap news) (he : (e, excD te d) ∈ news) (hf : env.frame = some L) (hk : env.scope.kind = .function)
    (hQ : ∀ h', RaisedSN base g outer e (.ref 60) (others news e) h' → g.UpToSlots h' → Q () { s' with heap := h' }) : wpAny (model PG w) (A.deeper env) (leaving env (.ref e)) Q E s' := by
  have K' := pushE K F hf hk
  have heN := N _ he
  have hin : ∀ x ∈ (env :: outer), ∀ b, x.frame = some b → b ∈ e :: (env :: outer).filterMap (·.frame) := fun x hx b hb => .tail _ (List.mem_filterMap.mpr ⟨x, hx, hb⟩)
  have gb : base.get? e = none := fresh_of_stays K.stays heN.2.2
  have st : base.StaysIn (hideAll s'.heap (e :: (env :: outer).filterMap (·.frame))) := fun b o q => hideAll_get _ (K'.stays b o q) fun hm => by
    rcases List.mem_cons.mp hm with z | hm
    · rw [z, gb] at q; cases q
    · rw [(K'.frames.mem hm).1] at q; cases q
  have sg : ∀ b o, g.get? b = some o → b ∉ outer.filterMap (·.frame) → (hideAll s'.heap (e :: (env :: outer).filterMap (·.frame))).get? b = some o := fun b o q nm => hideAll_get _ (F.keep b o q) fun hm => by
    rcases List.mem_cons.mp hm with z | hm
    · rw [z, heN.2.2] at q; cases q
    · rcases memE hf hm with z | z
      · rw [z, kts_self F] at q; cases q
      · exact nm z
  have hl : ∀ q ∈ others news e, (hideAll s'.heap (e :: (env :: outer).filterMap (·.frame))).get? q.1 = some q.2 ∧ g.get? q.1 = none ∧ base.get? q.1 = none := fun q hq => by
    have hq' := (List.mem_filter.mp hq).1
    refine ⟨hideAll_get _ (N q hq').1 fun hm => ?_, (N q hq').2.2, fresh_of_stays K.stays (N q hq').2.2⟩
    rcases List.mem_cons.mp hm with z | hm
    · exact off_others q hq z
    · rcases memE hf hm with z | z
      · exact (N q hq').2.1 z
      · obtain ⟨_, o, ho, _⟩ := K.frames.mem z
        rw [(N q hq').2.2] at ho; cases ho
  refine wpAny_leaving_firstW (a0 := .ref te) K'.stack (funFrames_hide K'.frames hin) hf heN.1 (fun b o hb => of_hideAll _ hb) (hideAll_none _ (.head _)) rfl rfl rfl fun h' hL => ?_
  refine bc fun z9 => ?_
  refine el4 hL fun k1 hq1 k3 k4 => ?_; try clear hL
  obtain ⟨_, _, k2⟩ := hq1
  refine z9 ?_; clear z9; try k_unmd
  exact hQ h' ⟨_, _, st, sg, hl, k1, hideAll_none _ (.head _), k2, k3⟩ ((Heap.UpToSlots.of_keeps F.keep).trans k4)
theorem leave_through {cls : Value} {Q : Unit → Shared → Prop} (K : Below A base outer g) (F : Fr g L g₂ m) (R : RaisedSN base g₂ (env :: outer) e cls news s'.heap) (hsm : g₂.UpToSlots s'.heap) (hf : env.frame = some L)
    (hQ : ∀ h', RaisedSN base g outer e cls news h' → g.UpToSlots h' → Q () { s' with heap := h' }) : wpAny (model PG w) (A.deeper env) (leaving env (.ref e)) Q E s' := by
  refine bc fun z9 => ?_
  refine ex2 R fun B a0 h9 => ?_; refine el4 h9 fun hB hBG hl hfl => ?_; clear h9; try clear R
  refine z9 ?_; clear z9; try k_unmd
  exact wpAny_leaves_onW (Around.frames_deeper K.stack) hf hfl fun h' x1 x2 =>
    hQ h' ⟨B, a0, hB, fun b o q nm => hBG b o (F.keep b o q) (fun hm => by
      rcases memE hf hm with z | z
      · rw [z, kts_self F] at q; cases q
      · exact nm z), fun q hq => ⟨(hl q hq).1, kts_none F.keep (hl q hq).2.1, (hl q hq).2.2⟩, x1⟩ ((Heap.UpToSlots.of_keeps F.keep).trans (hsm.trans x2))
theorem x_base : (Value.ref 60 :: tail60).contains (.type "BaseException") = true := by simp [tail60]
theorem raise_stmt {x : Sem Value} {Q : Flow → Shared → Prop} (hh : A.handled = none)
    (h : wpAny (model PG w) A x (fun v s₁ => ∃ e te d, v = .ref e ∧ s₁.heap.get? 60 = some cls60 ∧ s₁.heap.get? e = some (excD te d) ∧ E (.ref e) s₁) E s) : wpAny (model PG w) A (raiseStmt env (some x) none) Q E s := by
  unfold raiseStmt
  refine wpAny_bind (wpAny_mono h (fun v s₁ h₁ => ?_) fun _ _ x => x)
  refine bc fun z9 => ?_
  refine ex3 h₁ fun e te d h9 => ?_; refine el4 h9 fun hq2 hC he hE => ?_; clear h9; try clear h₁
  obtain rfl := hq2
  obtain ⟨hp, g, dd, tk, os⟩ := s₁; try clear s₁
  refine z9 ?_; clear z9; try k_unmd
  repeat (first | with_reducible refine wpAny_loadPart_at he ?_ | with_reducible refine wpAny_loadPart_at hC ?_ | (with_reducible refine wpAny_isSubtype_exc hC ?_; rw [x_base]) | wp_step)
  exact wpAny_raiseNew_none hh hE
theorem raise60 {x : Str} {np cpos pos : Pos} {arg : PySem.Expr} {Q : Flow → Shared → Prop} (hh : A.handled = none)
    (h : wpAny (model PG w) A (eval (.Name x np) env) (fun f s₁ => f = .ref 60 ∧ wpAny (model PG w) A (spliced (backTo cpos (starEach [arg] env))) (fun vs s₂ => s₂.heap.get? 60 = some cls60 ∧
        wpAny (model PG w) A (call (.ref 60) vs) (fun v s₃ => ∃ e te d, v = .ref e ∧ s₃.heap.get? 60 = some cls60 ∧ s₃.heap.get? e = some (excD te d) ∧ E (.ref e) s₃) E s₂) E s₁) E s)
    (he : starEach [arg] env = (false, eval arg env) :: starEach [] env := by rfl) :
    wpAny (model PG w) A (exec (.Raise (some (.Call (.Name x np) [arg] [] cpos)) none pos) env) Q E s := by
  rw [arm_exec_Raise]
  first
    | refine wpAny_bind (wpAny_standAt (raise_stmt hh (wpAny_bind (wpAny_mono (wpAny_Call_ofName (wpAny_mono h (fun f s₁ h₁ => ?_) fun _ _ x => x)) (fun v s₃ h₃ => wpAny_bind (wpAny_standAt (wpAny_pure h₃))) fun _ _ x => x))))
    | (simp only [evalOpt, Option.map]; refine wpAny_bind (wpAny_standAt (raise_stmt hh (wpAny_bind (wpAny_mono (wpAny_Call_ofName (wpAny_mono h (fun f s₁ h₁ => ?_) fun _ _ x => x)) (fun v s₃ h₃ => wpAny_bind (wpAny_standAt (wpAny_pure h₃))) fun _ _ x => x)))))
    | (refine wpAny_bind (wpAny_standAt (raise_stmt hh ?_)); refine wpAny_bind (wpAny_mono (wpAny_Call_ofName (wpAny_mono h (fun f s₁ h₁ => ?_) fun _ _ x => x)) (fun v s₃ h₃ => wpAny_bind (wpAny_standAt (wpAny_pure h₃))) fun _ _ x => x))
  obtain ⟨rfl, h₁⟩ := h₁
  rw [he] at h₁ ⊢
  refine callWith_of (P := fun h => h.get? 60 = some cls60) rfl (fun h q => ⟨.machine, .inr (.inl rfl), fun A Q E s k hq => ?_⟩) (PySem.Calls.evalArgs_plain h₁)
  refine bc fun z9 => ?_
  obtain ⟨hp, g, d, tk, os⟩ := s; try clear s
  refine z9 ?_; clear z9; try k_unmd
  exact wpAny_keeperOf_exc (k _ _ q) hq
end
noncomputable def XCtr (w : World) (mean : ExcName → Option Value) (mg mb : Str → Option Value) (f : Addr) (dd uu : Nat) (args : List Value) (Pre : Led → Reg → Prop) : Prop :=
  ∀ (dp un : Nat) (gd : Option (List Code)) (cn : Str) (cs : Scope) (a : Addr) (ccd : Value) (cl : List (Str × Addr)) (outer : List Env) (A₀ : Around) (base h₀ : Heap) (L : Addr) (m : Str → Option Value) (news : Led) (reg : Reg) (s : Shared)
    (Q E : Value → Shared → Prop),
    Below A₀ base outer h₀ → Fr h₀ L s.heap m → (KK w.params).In h₀ → News h₀ L s.heap news → Top VV (looseW VV []) mean mg mb h₀ → cs.kind = .function → Pre news reg → dp + dd < recursionLimit → un + uu < cLine →
    (∀ G e news' h' tk', Fr h₀ L G m → RaisedSN base G (envX cn cs L a ccd cl :: outer) e (.ref 60) news' h' → G.UpToSlots h' → (∀ p ∈ news, p ∈ news') → E (.ref e) { s with heap := h', toks := tk' }) →
    codeAny (model PySem.Challenge.rw_pq0074_01.row.prog w) (ktrTop dp un gd cn cs L a ccd cl outer) (.call (.ref f) ⟨args, []⟩) (fun r s' => match r with | .ok (.ret v) => Q v s' | .ok _ => False | .error e => E e s') s
section
variable {f : Addr} {dd uu : Nat} {args : List Value} {dp un : Nat} {gd : Option (List Code)} {cn : Str} {cs : Scope} {a : Addr} {ccd : Value} {cl : List (Str × Addr)} {outer : List Env} {A₀ : Around} {base h₀ : Heap} {L : Addr}
  {m : Str → Option Value} {news : Led} {reg : Reg} {s : Shared} {Q E : Value → Shared → Prop} {Pre : Led → Reg → Prop}
theorem XCtr.use (C : XCtr w mean mg mb f dd uu args Pre) (B : Below A₀ base outer h₀) (F : Fr h₀ L s.heap m) (X : (KK w.params).In h₀) (N : News h₀ L s.heap news) (T : Top VV (looseW VV []) mean mg mb h₀) (hk : cs.kind = .function)
    (pre : Pre news reg) (hd : dp + dd < recursionLimit) (hu : un + uu < cLine)
    (raised : ∀ G e news' h' tk', Fr h₀ L G m → RaisedSN base G (envX cn cs L a ccd cl :: outer) e (.ref 60) news' h' → G.UpToSlots h' → (∀ p ∈ news, p ∈ news') → E (.ref e) { s with heap := h', toks := tk' }) :
    wpAny (model PySem.Challenge.rw_pq0074_01.row.prog w) (ktrTop dp un gd cn cs L a ccd cl outer) (call (.ref f) args) Q E s := wpAny_call (C _ _ _ _ _ _ _ _ _ _ _ _ _ _ _ _ _ _ _ B F X N T hk pre hd hu raised)
end
end
section
variable {w : World} {mean : ExcName → Option Value} {mg mb : Str → Option Value}
section
variable {dp un : Nat} {gd : Option (List Code)} {cn : Str} {cs : Scope} {a : Addr} {ccd : Value} {cl : List (Str × Addr)} {outer : List Env} {A₀ : Around} {base h₀ : Heap} {L : Addr} {m : Str → Option Value} {news : Led} {s : Shared} {Q E : Value → Shared → Prop}
theorem fault_N {x : Str} {t : Tok} (B : Below A₀ base outer h₀) (F : Fr h₀ L s.heap m) (X : (KK w.params).In h₀) (N : News h₀ L s.heap news) (T : Top VV (looseW VV []) mean mg mb h₀) (hk : cs.kind = .function) (hd : dp + 8 < recursionLimit) (hu : un + 200 < cLine)
    (h : ∀ e te d h' tk news', Fr h₀ L h' m → News h₀ L h' news' → (e, excD te d) ∈ news' → (∀ p ∈ news, p ∈ news' ∧ p.1 ≠ e) → Q (.ref e) { s with heap := h', toks := tk }) :
    wpAny (model PG w) (ktrTop dp un gd cn cs L a ccd cl outer) (call (.ref 60) [.str x t]) Q E s := by
  refine bc fun z9 => ?_
  obtain ⟨hh, g, dr, tk, os⟩ := s; try clear s
  refine z9 ?_; clear z9; try k_unmd
  refine x_call (X.keeps F.keep) ?_
  have F2 := (F.push { cls := .type "tuple", data := .seq [Value.str x t].toArray }).push (excO hh.objs.size)
  have N2 := (N.push F { cls := .type "tuple", data := .seq [Value.str x t].toArray }).push (F.push _) (excO hh.objs.size)
  have hs : (hh.push { cls := .type "tuple", data := .seq [Value.str x t].toArray }).objs.size = hh.objs.size + 1 := Heap.size_push ..
  rw [hs] at N2
  try k_fold
  k_dflt (refine' Ctr.use (mean := mean) (mg := mg) (mb := mb) (reg := fun _ => 3) (herr_init (hh.objs.size + 1) hh.objs.size x t) ?B ?F ?X ?N ?T ?k ?pre ?d ?u ?_)
  (case d => show (Around.under (ktrTop dp un gd cn cs L a ccd cl outer) (.builtin "type.__call__" ⟨.ref 60 :: [.str x t], []⟩)).depth + 4 < recursionLimit; rw [depth_under_make]; show dp + 1 + 4 < recursionLimit; omega)
  (case u => show (Around.under (ktrTop dp un gd cn cs L a ccd cl outer) (.builtin "type.__call__" ⟨.ref 60 :: [.str x t], []⟩)).units + 160 < cLine; rw [units_under_make]; show un + 1 + 160 < cLine; omega)
  (case B => exact B); (case F => exact F2); (case X => exact X); (case N => exact N2); (case T => exact T); (case k => exact hk)
  (case pre => exact .head _)
  intro r news' reg' h' tk' F' N' hp9; refine bc fun z9 => ?_
  refine el3 hp9 fun hq1 hq2 hkeep => ?_; try clear hp9
  obtain rfl := hq1
  obtain ⟨te, d, he⟩ := hq2
  refine z9 ?_; clear z9; try k_unmd
  refine ⟨rfl, h _ te d _ _ news' F' N' he fun p hp => ?_⟩
  have hlt : p.1 < hh.objs.size := Heap.lt_size (N p hp).1
  have hne : p.1 ≠ hh.objs.size + 1 := Nat.ne_of_lt (Nat.lt_succ_of_lt hlt)
  exact ⟨hkeep p (.tail _ (.tail _ hp)) hne, hne⟩
end
end
section
variable {w : World} {mean : ExcName → Option Value} {mg mb : Str → Option Value}
theorem get60 {h₀ h : Heap} {L : Addr} {m : Str → Option Value} (F : Fr h₀ L h m) (X : (KK w.params).In h₀) : h.get? 60 = some cls60 := (X.keeps F.keep) _ _ (look60 w)
theorem check_lab (ra : Addr) (many : Int) (t : Tok) : XCtr w mean mg mb 406 12 400 [.ref ra, .int many t] (fun news reg => DT news reg (.ref ra) (.tuple [sD "told", sD "t u"])) := by
  unfold XCtr
  k_fill
  intro dp un gd cn cs a₀ ccd cl outer A₀ base h₀ L m news reg s Q E B F X N T hk hpre hdp hun hraise
  refine inv_told hpre fun c t1 t2 hm => ?_
  k_dflt ktr_enter
  refine' (let AA := _; let EE := _; let TT : Nat := _; (?_ : wpAny _ AA _ _ EE ⟨_, _, _, TT, _⟩))
  with_reducible rename Fr _ _ _ _ => kF
  refine' (let mm : Str → Option Value := _; (fun (kF : Fr _ _ _ mm) => ?_) kF); try k_unmd
  walk_at "NM"
  walk_at "S"
  try k_fold
  k_dflt (refine' RCtr.use (reg := fun _ => 0) (is_op_ctr (Str.ofString "t u") _) ?B ?F ?X ?N ?T ?k ?pre ?d ?u ?_)
  (case B | F | X | N | T => k_asm); (case k => first | exact rfl | assumption); (case d | u => walk_at "ROOM")
  (case pre => exact ⟨by decide +kernel, by decide +kernel, by decide +kernel⟩)
  intro r' h' tk' F' N' hp'; (try k_sweep); (first | (obtain ⟨t', e'⟩ := hp'; subst e') | (have e' := hp'; subst e')); (try dsimp only); (try k_fold)
  rw [show isOp (Str.ofString "t u") = false by kernel_rfl]
  iterate 3 walk1
  refine raise60 rfl ?_
  walk1
  refine ⟨rfl, ?_⟩
  repeat' (first | ((try k_unmd); k_unfold; (try dsimp only)) | ((try dsimp only); (fail_if_success (with_reducible show _root_.PySem.wpAt _ _ _ _ _ _ _)); walk1))
  · exact get60 (by k_asm) (by k_asm)
  k_dflt (refine' fault_N ?B ?F ?X ?N ?T ?k ?d ?u ?_)
  (case B | F | X | N | T => k_asm); (case k => first | exact rfl | assumption); (case d | u => walk_at "ROOM")
  intro e te d h9 tk9 news9 F9 N9 he9 hs9
  refine ⟨e, te, d, rfl, get60 F9 (by k_asm), (N9 _ he9).1, ?_⟩
  k_dflt (refine' leave_fault ?K ?F ?N he9 rfl rfl ?_)
  (case K => k_asm); (case F => k_asm); (case N => k_asm)
  intro h10 R10 U10
  exact hraise _ e _ h10 _ (by k_asm) R10 U10 fun p hp => mem_others (hs9 p hp).1 (hs9 p hp).2
theorem inv_place {news : Led} {reg : Reg} {ra : Addr} {y : Str} {n : Nat} (hd : DT news reg (.ref ra) (.tuple [sD "rule", sD "r", .tuple [.tuple [.str y, natD n]]])) {P : Prop} (k : ∀ c t1 t2 a3 c3 a4 c4 u1 u2, (ra, tupO [.str (Str.ofString "rule") t1, .str (Str.ofString "r") t2, .ref a3] c) ∈ news → (a3, tupO [.ref a4] c3) ∈ news → (a4, tupO [.str y u1, .int n u2] c4) ∈ news → P) : P := by
  cases hd with | tuple hm hds => ?_
  cases hds with | cons a1 r1 => ?_
  cases r1 with | cons a2 r2 => ?_
  cases r2 with | cons a3 r3 => ?_
  cases a1
  cases a2
  cases r3
  cases a3 with | tuple m3 q3 => ?_
  cases q3 with | cons p1 q4 => ?_
  cases q4
  refine inv_pair p1 fun a4 c4 u1 u2 e4 m4 => ?_
  subst e4
  exact k _ _ _ _ _ _ _ _ _ hm m3 m4
theorem check_place (ra : Addr) (y : Str) (n many : Nat) (t : Tok) (hy : (y = Str.ofString "?x" ∧ many ≤ n) ∨ y = Str.ofString "x") :
    XCtr w mean mg mb 406 14 500 [.ref ra, .int many t] (fun news reg => DT news reg (.ref ra) (.tuple [sD "rule", sD "r", .tuple [.tuple [.str y, natD n]]])) := by
  unfold XCtr
  k_fill
  intro dp un gd cn cs a₀ ccd cl outer A₀ base h₀ L m news reg s Q E B F X N T hk hpre hdp hun hraise
  refine inv_place hpre fun c t1 t2 a3 c3 a4 c4 u1 u2 hm m3 m4 => ?_
  k_dflt ktr_enter
  refine' (let AA := _; let EE := _; let TT : Nat := _; (?_ : wpAny _ AA _ _ EE ⟨_, _, _, TT, _⟩))
  with_reducible rename Fr _ _ _ _ => kF
  refine' (let mm : Str → Option Value := _; (fun (kF : Fr _ _ _ mm) => ?_) kF); try k_unmd
  walk_at "NM"
  walk_at "S"
  try k_fold
  k_dflt (refine' RCtr.use (reg := fun _ => 0) (is_op_ctr (Str.ofString "r") _) ?B ?F ?X ?N ?T ?k ?pre ?d ?u ?_)
  (case B | F | X | N | T => k_asm); (case k => first | exact rfl | assumption); (case d | u => walk_at "ROOM")
  (case pre => exact ⟨by decide +kernel, by decide +kernel, by decide +kernel⟩)
  intro r' h' tk' F' N' hp'; (try k_sweep); (first | (obtain ⟨t', e'⟩ := hp'; subst e') | (have e' := hp'; subst e')); (try dsimp only); (try k_fold)
  rw [show isOp (Str.ofString "r") = true by kernel_rfl]
  walk_at "S"
  refine' iter_tup_pair (m := ?m0) (reg := reg) (fun i m₁ news₁ reg₁ => i = 0 ∧ Gr (fun _ => False) reg news reg₁ news₁ ∧ ∃ k1 k2, m₁ = mx ("n" : Str) k2 (mx ("name" : Str) k1 ?m0)) ?hh ?F ?N ?J ?hat ?mono ?turn ?done ?hE ?ht
  (case hh => rfl); (case F => k_asm); (case N => k_asm); (case J => exact ⟨rfl, Gr.refl, _, _, by rw [← mx_self, ← mx_self]⟩)
  (case hat => exact fun i m news reg h => h.2.1.keep _ m3 id)
  (case mono => exact fun b i m₁ news₁ reg₁ news' reg' hb h _ l => ⟨h.1, h.2.1.lo hb l, h.2.2⟩)
  (case hE => passes_own)
  (case ht => exact rfl)
  case turn =>
    intro i v m₁ news₁ reg₁ h tk hv hp9 F1 N1
    refine bc fun z9 => ?_
    first | refine el5 hp9 fun hq1 g k1 k2 hq2 => ?_ | (refine ex1 hp9 fun hq1 h9 => ?_; refine el4 h9 fun g k1 k2 hq2 => ?_; clear h9) | (refine ex2 hp9 fun hq1 g h9 => ?_; refine el3 h9 fun k1 k2 hq2 => ?_; clear h9) | (refine ex3 hp9 fun hq1 g k1 h9 => ?_; refine el2 h9 fun k2 hq2 => ?_; clear h9) | refine ex4 hp9 fun hq1 g k1 k2 hq2 => ?_ | obtain ⟨hq1, g, k1, k2, hq2⟩ := hp9; try clear hp9
    obtain rfl := hq1
    obtain rfl := hq2
    refine z9 ?_; clear z9; try k_unmd
    refine' (let mm : Str → Option Value := _; (fun (F1 : Fr _ _ _ mm) => ?_) F1); try k_unmd
    have c4 := g.keep _ m4 id
    obtain rfl := Option.some.inj hv
    walk_at "S"
    rename_i T6 h6 F6 N6 l6
    have hlen : y.length ≤ sizeLine := by rcases hy with ⟨rfl, _⟩ | rfl <;> decide +kernel
    try k_fold
    k_dflt (refine' RCtr.use (reg := fun _ => 0) (is_var_ctr T6 0 y) ?B ?F ?X ?N ?T ?k ?pre ?d ?u ?_)
    (case B | F | X | N | T => k_asm); (case k => first | exact rfl | assumption); (case d | u => walk_at "ROOM")
    (case pre => exact ⟨⟨_, .head _⟩, hlen⟩)
    intro r' h' tk' F' N' hp'; (try k_sweep); (first | (obtain ⟨t', e'⟩ := hp'; subst e') | (have e' := hp'; subst e')); (try dsimp only); (try k_fold)
    rcases hy with ⟨rfl, hle⟩ | rfl
    · rw [show isVar (Str.ofString "?x") = true by kernel_rfl]
      repeat' (first | ((try k_unmd); k_unfold; (try dsimp only)) | ((try dsimp only); (fail_if_success (with_reducible (first | show wpAny _ _ (exec (Stmt.Raise _ _ _) _) _ _ _ | show wpAny _ _ (call (Value.ref _) _) _ _ _))); walk1) | (leave1; try dsimp only))
      try k_fold
      k_dflt (refine' RCtr.use (reg := fun _ => 0) (is_op_ctr (Str.ofString "?x") _) ?B ?F ?X ?N ?T ?k ?pre ?d ?u ?_)
      (case B | F | X | N | T => k_asm); (case k => first | exact rfl | assumption); (case d | u => walk_at "ROOM")
      (case pre => exact ⟨by decide +kernel, by decide +kernel, by decide +kernel⟩)
      intro r' h' tk' F' N' hp'; (try k_sweep); (first | (obtain ⟨t', e'⟩ := hp'; subst e') | (have e' := hp'; subst e')); (try dsimp only); (try k_fold)
      rw [show isOp (Str.ofString "?x") = true by kernel_rfl]
      repeat' (first | ((try k_unmd); k_unfold; (try dsimp only)) | ((try dsimp only); (fail_if_success (with_reducible (first | show wpAny _ _ (exec (Stmt.Raise _ _ _) _) _ _ _ | show wpAny _ _ (call (Value.ref _) _) _ _ _))); walk1) | (leave1; try dsimp only))
      refine raise60 rfl ?_
      walk1
      refine ⟨rfl, ?_⟩
      repeat' (first | ((try k_unmd); k_unfold; (try dsimp only)) | ((try dsimp only); (fail_if_success (with_reducible show _root_.PySem.wpAt _ _ _ _ _ _ _)); walk1))
      · exact get60 (by k_asm) (by k_asm)
      k_dflt (refine' fault_N ?B ?F ?X ?N ?T ?k ?d ?u ?_)
      (case B | F | X | N | T => k_asm); (case k => first | exact rfl | assumption); (case d | u => walk_at "ROOM")
      intro e te d h9 tk9 news9 F9 N9 he9 hs9
      refine ⟨e, te, d, rfl, get60 F9 (by k_asm), (N9 _ he9).1, ?_⟩
      k_dflt (refine' leave_fault ?K ?F ?N he9 rfl rfl ?_)
      (case K => k_asm); (case F => k_asm); (case N => k_asm)
      intro h10 R10 U10
      exact hraise _ e _ h10 _ (by k_asm) R10 U10 fun p hp => mem_others (hs9 p (.tail _ (g.keep p hp id))).1 (hs9 p (.tail _ (g.keep p hp id))).2
    · rw [show isVar (Str.ofString "x") = false by kernel_rfl]
      repeat' (first | ((try k_unmd); k_unfold; (try dsimp only)) | ((try dsimp only); (fail_if_success (with_reducible (first | show wpAny _ _ (exec (Stmt.Raise _ _ _) _) _ _ _ | show wpAny _ _ (call (Value.ref _) _) _ _ _))); walk1) | (leave1; try dsimp only))
      refine raise60 rfl ?_
      walk1
      refine ⟨rfl, ?_⟩
      repeat' (first | ((try k_unmd); k_unfold; (try dsimp only)) | ((try dsimp only); (fail_if_success (with_reducible show _root_.PySem.wpAt _ _ _ _ _ _ _)); walk1))
      · exact get60 (by k_asm) (by k_asm)
      k_dflt (refine' fault_N ?B ?F ?X ?N ?T ?k ?d ?u ?_)
      (case B | F | X | N | T => k_asm); (case k => first | exact rfl | assumption); (case d | u => walk_at "ROOM")
      intro e te d h9 tk9 news9 F9 N9 he9 hs9
      refine ⟨e, te, d, rfl, get60 F9 (by k_asm), (N9 _ he9).1, ?_⟩
      k_dflt (refine' leave_fault ?K ?F ?N he9 rfl rfl ?_)
      (case K => k_asm); (case F => k_asm); (case N => k_asm)
      intro h10 R10 U10
      exact hraise _ e _ h10 _ (by k_asm) R10 U10 fun p hp => mem_others (hs9 p (.tail _ (g.keep p hp id))).1 (hs9 p (.tail _ (g.keep p hp id))).2
  case done =>
    intro m₁ news₁ reg₁ h tk hp9 F1 N1
    obtain ⟨h0, _⟩ := hp9
    refine' (let mm : Str → Option Value := _; (fun (F1 : Fr _ _ _ mm) => ?_) F1); try k_unmd
    simp at h0
end
section
variable {w : World} {mean : ExcName → Option Value} {mg mb : Str → Option Value}
structure Refused (n : Nat) (a b : Int) (d : PyData) : Prop where
  bad : (d = .tuple [sD "told", sD "t"] ∧ (a = -1 ∨ (0 ≤ a ∧ a < n ∧ b = n))) ∨ d = .tuple [sD "told", sD "t u"] ∨ ∃ y k, d = .tuple [sD "rule", sD "r", .tuple [.tuple [.str y, natD k]]] ∧ ((y = Str.ofString "?x" ∧ n ≤ k) ∨ y = Str.ofString "x")
theorem w_merge_bad (o : Nat) (x : Addr) (S : Hs) (a b : Int) (d : PyData) (ta tb : Tok) (ra : Addr) (W : Whs S) (hR : Refused S.up.length a b d) : XCtr w mean mg mb 438 20 800 [.ref x, .int a ta, .int b tb, .ref ra]
   (fun news reg => HeapR w news reg o x S ∧ DT news reg (.ref ra) d) := by
  unfold XCtr
  k_fill
  intro dp un gd cn cs a₀ ccd cl outer A₀ base h₀ L m news reg s Q E B F X N T hk hpre hdp hun hraise
  refine bc fun z9 => ?_
  obtain ⟨hH, hd⟩ := hpre
  obtain ⟨A, z⟩ := id hH
  refine z9 ?_; clear z9; try k_unmd
  have h1 := z.obj.inst
  have h2 := z.obj.dict
  clear z
  k_dflt (refine' ks_code_super ?k1 ?k2 ?k3 ?k4 ?k5 ?kA ?kF ?kK ?k6 ?k7 ?k8 ?k9 ?kB ?_ ?c1 ?c2 ?c3 ?c4; (case kA => exact rfl); (case kF => exact rfl); (case kK => assumption); (case k1 => k_asm); (case k2 => k_asm); (case k3 => k_asm); (case k4 => k_asm); (case k5 => k_asm); (case k6 => k_is); (case k7 => k_is); (case k8 => ktr_room); (case k9 => exact BindsTo.of_eq rfl); (case kB => exact locs rfl); (case c1 => decide); (case c2 => exact rfl); (case c3 => exact rfl); (case c4 => exact rfl); intro g' L' h' FG' F' N' B' X' T' l1; (try k_lt l1); (try dsimp only); (try k_lift B'))
  walk_at "S"
  try k_fold
  k_dflt (refine' RCtr.use (heap_size o x S S.up.length W.len.symm) ?B ?F ?X ?N ?T ?k ?pre ?d ?u ?_)
  (case B | F | X | N | T => k_asm); (case k => first | exact rfl | assumption); (case d | u => walk_at "ROOM")
  (case pre => exact hH)
  intro r' h' tk' F' N' hp'; (try k_sweep); (first | (obtain ⟨t', e'⟩ := hp'; subst e') | (have e' := hp'; subst e')); (try dsimp only); (try k_fold)
  walk_at "S"
  rcases hR.bad with ⟨rfl, hab⟩ | rfl | ⟨y, k, rfl, hy⟩
  ·
    try k_fold
    k_dflt (refine' RCtr.use (check_told ra (Str.ofString "t") S.up.length _ (by decide +kernel) (by kernel_rfl)) ?B ?F ?X ?N ?T ?k ?pre ?d ?u ?_)
    (case B | F | X | N | T => k_asm); (case k => first | exact rfl | assumption); (case d | u => walk_at "ROOM")
    (case pre => exact hd)
    intro r' h' tk' F' N' hp'; (try k_sweep); (first | (obtain ⟨t', e'⟩ := hp'; subst e') | (have e' := hp'; subst e')); (try dsimp only); (try k_fold)
    rcases hab with rfl | ⟨h0, h1, rfl⟩
    ·
      repeat' (first | ((try k_unmd); k_unfold; (try dsimp only)) | ((try dsimp only); (fail_if_success (with_reducible (first | show wpAny _ _ (exec (Stmt.Raise _ _ _) _) _ _ _ | show wpAny _ _ (call (Value.ref _) _) _ _ _))); walk1) | (leave1; try dsimp only))
      refine raise60 rfl ?_
      walk1
      refine ⟨rfl, ?_⟩
      repeat' (first | ((try k_unmd); k_unfold; (try dsimp only)) | ((try dsimp only); (fail_if_success (with_reducible show _root_.PySem.wpAt _ _ _ _ _ _ _)); walk1))
      · exact get60 (by k_asm) (by k_asm)
      k_dflt (refine' fault_N ?B ?F ?X ?N ?T ?k ?d ?u ?_)
      (case B | F | X | N | T => k_asm); (case k => first | exact rfl | assumption); (case d | u => walk_at "ROOM")
      intro e te d h9 tk9 news9 F9 N9 he9 hs9
      refine ⟨e, te, d, rfl, get60 F9 (by k_asm), (N9 _ he9).1, ?_⟩
      k_dflt (refine' leave_fault ?K ?F ?N he9 rfl rfl ?_)
      (case K => k_asm); (case F => k_asm); (case N => k_asm)
      intro h10 R10 U10
      exact hraise _ e _ h10 _ (by k_asm) R10 U10 fun p hp => mem_others (hs9 p hp).1 (hs9 p hp).2
    ·
      repeat' (first | ((try k_unmd); k_unfold; (try dsimp only)) | ((try dsimp only); (fail_if_success (with_reducible (first | show wpAny _ _ (exec (Stmt.Raise _ _ _) _) _ _ _ | show wpAny _ _ (call (Value.ref _) _) _ _ _))); walk1) | (leave1; try dsimp only))
      try k_fold
      k_dflt (refine' RCtr.use (heap_size o x S S.up.length W.len.symm) ?B ?F ?X ?N ?T ?k ?pre ?d ?u ?_)
      (case B | F | X | N | T => k_asm); (case k => first | exact rfl | assumption); (case d | u => walk_at "ROOM")
      (case pre => exact hH)
      intro r' h' tk' F' N' hp'; (try k_sweep); (first | (obtain ⟨t', e'⟩ := hp'; subst e') | (have e' := hp'; subst e')); (try dsimp only); (try k_fold)
      repeat' (first | ((try k_unmd); k_unfold; (try dsimp only)) | ((try dsimp only); (fail_if_success (with_reducible (first | show wpAny _ _ (exec (Stmt.Raise _ _ _) _) _ _ _ | show wpAny _ _ (call (Value.ref _) _) _ _ _))); walk1) | (leave1; try dsimp only))
      try k_fold
      k_dflt (refine' RCtr.use (heap_size o x S S.up.length W.len.symm) ?B ?F ?X ?N ?T ?k ?pre ?d ?u ?_)
      (case B | F | X | N | T => k_asm); (case k => first | exact rfl | assumption); (case d | u => walk_at "ROOM")
      (case pre => exact hH)
      intro r' h' tk' F' N' hp'; (try k_sweep); (first | (obtain ⟨t', e'⟩ := hp'; subst e') | (have e' := hp'; subst e')); (try dsimp only); (try k_fold)
      repeat' (first | ((try k_unmd); k_unfold; (try dsimp only)) | ((try dsimp only); (fail_if_success (with_reducible (first | show wpAny _ _ (exec (Stmt.Raise _ _ _) _) _ _ _ | show wpAny _ _ (call (Value.ref _) _) _ _ _))); walk1) | (leave1; try dsimp only))
      refine raise60 rfl ?_
      walk1
      refine ⟨rfl, ?_⟩
      repeat' (first | ((try k_unmd); k_unfold; (try dsimp only)) | ((try dsimp only); (fail_if_success (with_reducible show _root_.PySem.wpAt _ _ _ _ _ _ _)); walk1))
      · exact get60 (by k_asm) (by k_asm)
      k_dflt (refine' fault_N ?B ?F ?X ?N ?T ?k ?d ?u ?_)
      (case B | F | X | N | T => k_asm); (case k => first | exact rfl | assumption); (case d | u => walk_at "ROOM")
      intro e te d h9 tk9 news9 F9 N9 he9 hs9
      refine ⟨e, te, d, rfl, get60 F9 (by k_asm), (N9 _ he9).1, ?_⟩
      k_dflt (refine' leave_fault ?K ?F ?N he9 rfl rfl ?_)
      (case K => k_asm); (case F => k_asm); (case N => k_asm)
      intro h10 R10 U10
      exact hraise _ e _ h10 _ (by k_asm) R10 U10 fun p hp => mem_others (hs9 p hp).1 (hs9 p hp).2
  ·
    k_dflt (refine' XCtr.use (check_lab ra S.up.length _) ?B ?F ?X ?N ?T ?k ?pre ?d ?u ?_)
    (case B | F | X | N | T => k_asm); (case k => first | exact rfl | assumption); (case d | u => walk_at "ROOM")
    (case pre => exact hd)
    intro G9 e9 news9 h9 tk9 F9 R9 U9 hs9
    k_dflt (refine' leave_through ?K ?F R9 U9 rfl ?_)
    (case K => k_asm); (case F => exact F9)
    intro h10 R10 U10
    exact hraise _ e9 _ h10 _ (by k_asm) R10 U10 (fun p hp => hs9 p hp)
  ·
    k_dflt (refine' XCtr.use (check_place ra y k S.up.length _ hy) ?B ?F ?X ?N ?T ?k ?pre ?d ?u ?_)
    (case B | F | X | N | T => k_asm); (case k => first | exact rfl | assumption); (case d | u => walk_at "ROOM")
    (case pre => exact hd)
    intro G9 e9 news9 h9 tk9 F9 R9 U9 hs9
    k_dflt (refine' leave_through ?K ?F R9 U9 rfl ?_)
    (case K => k_asm); (case F => exact F9)
    intro h10 R10 U10
    exact hraise _ e9 _ h10 _ (by k_asm) R10 U10 (fun p hp => hs9 p hp)
end
section
variable {w : World} {mean : ExcName → Option Value} {mg mb : Str → Option Value}
theorem story_bad (q o : Nat) (st : Addr) (S : Hs) (a b : Int) (d : PyData) (ta tb : Tok) (ra : Addr) (W : Whs S) (hR : Refused S.up.length a b d) : XCtr w mean mg mb 484 21 840 [.ref st, .int a ta, .int b tb, .ref ra]
   (fun news reg => StyR w news reg q o st S ∧ DT news reg (.ref ra) d) := by
  unfold XCtr
  k_fill
  intro dp un gd cn cs a₀ ccd cl outer A₀ base h₀ L m news reg s Q E B F X N T hk hpre hdp hun hraise
  refine bc fun z9 => ?_
  obtain ⟨⟨sd, x, tk0, z⟩, hd⟩ := hpre
  refine z9 ?_; clear z9; try k_unmd
  have h1 := z.inst
  have h2 := z.dict
  obtain ⟨A, zz⟩ := id z.heap
  have h3 := zz.obj.inst
  have h4 := zz.obj.dict
  clear zz
  k_dflt ktr_enter
  refine' (let AA := _; let EE := _; let TT : Nat := _; (?_ : wpAny _ AA _ _ EE ⟨_, _, _, TT, _⟩))
  with_reducible rename Fr _ _ _ _ => kF
  refine' (let mm : Str → Option Value := _; (fun (kF : Fr _ _ _ mm) => ?_) kF); try k_unmd
  walk_at "NM"
  walk_at "S"
  k_dflt (refine' XCtr.use (w_merge_bad o x S a b d _ _ ra W hR) ?B ?F ?X ?N ?T ?k ?pre ?d ?u ?_)
  (case B | F | X | N | T => k_asm); (case k => first | exact rfl | assumption); (case d | u => walk_at "ROOM")
  (case pre => exact ⟨z.heap, hd⟩)
  intro G9 e9 news9 h9 tk9 F9 R9 U9 hs9
  k_dflt (refine' leave_through ?K ?F R9 U9 rfl ?_)
  (case K => k_asm); (case F => exact F9)
  intro h10 R10 U10
  exact hraise _ e9 _ h10 _ (by k_asm) R10 U10 (fun p hp => hs9 p hp)
noncomputable def SCtr (w : World) (mean : ExcName → Option Value) (mg mb : Str → Option Value) (f : Addr) (dd uu : Nat) (args : List Value) (Pre : Led → Reg → Prop) (Post : Led → Reg → Value → Led → Reg → Prop) : Prop :=
  ∀ (dp un : Nat) (gd : Option (List Code)) (cn : Str) (cs : Scope) (a : Addr) (ccd : Value) (outer : List Env) (A₀ : Around) (base h₀ g₀ : Heap) (L : Addr) (m : Str → Option Value) (news : Led) (reg : Reg) (s : Shared)
    (Q E : Value → Shared → Prop),
    Below A₀ base outer h₀ → Fr h₀ L s.heap m → (KK w.params).In h₀ → News h₀ L s.heap news → Top VV (looseW VV []) mean mg mb h₀ → (KK w.params).In base → Top VV (looseW VV []) mean mg mb base → KtsDicts (outer.filterMap (·.frame)) h₀ → KtsTurn (outer.filterMap (·.frame)) g₀ h₀ →
    cs.kind = .function → Pre news reg → dp + dd < recursionLimit → un + uu < cLine →
    (∀ r news' reg' h₀' h' tk', KtsTurn (outer.filterMap (·.frame)) g₀ h₀' → Fr h₀' L h' m → News h₀' L h' news' → Below A₀ base outer h₀' → (KK w.params).In h₀' → Top VV (looseW VV []) mean mg mb h₀' → KtsDicts (outer.filterMap (·.frame)) h₀' → Post news reg r news' reg' →
      Q r { s with heap := h', toks := tk' }) →
    codeAny (model PySem.Challenge.rw_pq0074_01.row.prog w) (ktrTop dp un gd cn cs L a ccd [] outer) (.call (.ref f) ⟨args, []⟩) (fun r s' => match r with | .ok (.ret v) => Q v s' | .ok _ => False | .error e => E e s') s
structure MenuI (NL : Led) (reg : Reg) (n : Nat) (v : Value) (E r : Addr) (ta tb : Tok) (a b : Int) (d : PyData) : Prop where
  val : v = .ref E
  mem : (E, tupO [.int a ta, .int b tb, .ref r] 0) ∈ NL
  dat : DT NL reg (.ref r) d
  bad : Refused n a b d
noncomputable def Menu (NL : Led) (reg : Reg) (n : Nat) (v : Value) : Prop := ∃ E r ta tb a b d, MenuI NL reg n v E r ta tb a b d
theorem menu_top {h₀ h : Heap} {L l5 E5 r5 q5 p5 l4 E4 r4 q4 p4 E3 r3 E2 r2 E1 r1 T0 : Addr} {oT : Obj} {news : Led} {a n : Nat} {z : Int} {t1 t2 t3 t4 t5 t6 t7 t8 t9 t10 t11 t12 t13 t14 t15 t16 t17 t18 t19 t20 t21 t22 t23 t24 : Tok} (reg : Reg) (hz : z = -1) (ha : a < n)
    (N : News h₀ L h ((l5, lisO [.ref E5] 0) :: (E5, tupO [.int (a : Int) t1, .int (a : Int) t2, .ref r5] 0) :: (r5, tupO [.str (Str.ofString "rule") t3, .str (Str.ofString "r") t4, .ref q5] 0) :: (q5, tupO [.ref p5] 0) :: (p5, tupO [.str (Str.ofString "x") t5, .int (a : Int) t6] 0) ::
      (l4, lisO [.ref E1, .ref E2, .ref E3, .ref E4] 0) :: (E4, tupO [.int (a : Int) t7, .int (a : Int) t8, .ref r4] 0) :: (r4, tupO [.str (Str.ofString "rule") t9, .str (Str.ofString "r") t10, .ref q4] 0) :: (q4, tupO [.ref p4] 0) :: (p4, tupO [.str (Str.ofString "?x") t11, .int (n : Int) t12] 0) ::
      (E3, tupO [.int (a : Int) t13, .int (a : Int) t14, .ref r3] 0) :: (r3, tupO [.str (Str.ofString "told") t15, .str (Str.ofString "t u") t16] 0) :: (E2, tupO [.int z t17, .int (a : Int) t18, .ref r2] 0) :: (r2, tupO [.str (Str.ofString "told") t19, .str (Str.ofString "t") t20] 0) ::
      (E1, tupO [.int (a : Int) t21, .int (n : Int) t22, .ref r1] 0) :: (r1, tupO [.str (Str.ofString "told") t23, .str (Str.ofString "t") t24] 0) :: (T0, oT) :: news)) :
    ∃ (NL : Led) (us vs : List Value), News h₀ L h NL ∧ (∀ p ∈ news, p ∈ NL) ∧ (l5, lisO us 0) ∈ NL ∧ (l4, lisO vs 0) ∈ NL ∧ vs.length = 4 ∧ us.length = 1 ∧ ∀ (i : Nat) (v : Value), (vs ++ us)[i]? = some v → Menu NL reg n v := by
  subst hz
  refine ⟨_, [.ref E5], [.ref E1, .ref E2, .ref E3, .ref E4], N, fun p hp => ?_, .head _, ?_, rfl, rfl, fun i v hv => ?_⟩
  · exact (.tail _ (.tail _ (.tail _ (.tail _ (.tail _ (.tail _ (.tail _ (.tail _ (.tail _ (.tail _ (.tail _ (.tail _ (.tail _ (.tail _ (.tail _ (.tail _ (.tail _ hp)))))))))))))))))
  · exact (.tail _ (.tail _ (.tail _ (.tail _ (.tail _ (.head _))))))
  · rcases i with _ | _ | _ | _ | _ | i
    · cases hv
      exact ⟨E1, r1, t21, t22, (a : Int), (n : Int), (.tuple [sD "told", sD "t"]), rfl, (.tail _ (.tail _ (.tail _ (.tail _ (.tail _ (.tail _ (.tail _ (.tail _ (.tail _ (.tail _ (.tail _ (.tail _ (.tail _ (.tail _ (.head _))))))))))))))), .tuple (.tail _ (.tail _ (.tail _ (.tail _ (.tail _ (.tail _ (.tail _ (.tail _ (.tail _ (.tail _ (.tail _ (.tail _ (.tail _ (.tail _ (.tail _ (.head _)))))))))))))))) (.cons (.str _ _) (.cons (.str _ _) .nil)), ⟨.inl ⟨rfl, .inr ⟨by omega, by omega, rfl⟩⟩⟩⟩
    · cases hv
      exact ⟨E2, r2, t17, t18, (-1), (a : Int), (.tuple [sD "told", sD "t"]), rfl, (.tail _ (.tail _ (.tail _ (.tail _ (.tail _ (.tail _ (.tail _ (.tail _ (.tail _ (.tail _ (.tail _ (.tail _ (.head _))))))))))))), .tuple (.tail _ (.tail _ (.tail _ (.tail _ (.tail _ (.tail _ (.tail _ (.tail _ (.tail _ (.tail _ (.tail _ (.tail _ (.tail _ (.head _)))))))))))))) (.cons (.str _ _) (.cons (.str _ _) .nil)), ⟨.inl ⟨rfl, .inl rfl⟩⟩⟩
    · cases hv
      exact ⟨E3, r3, t13, t14, (a : Int), (a : Int), (.tuple [sD "told", sD "t u"]), rfl, (.tail _ (.tail _ (.tail _ (.tail _ (.tail _ (.tail _ (.tail _ (.tail _ (.tail _ (.tail _ (.head _))))))))))), .tuple (.tail _ (.tail _ (.tail _ (.tail _ (.tail _ (.tail _ (.tail _ (.tail _ (.tail _ (.tail _ (.tail _ (.head _)))))))))))) (.cons (.str _ _) (.cons (.str _ _) .nil)), ⟨.inr (.inl rfl)⟩⟩
    · cases hv
      exact ⟨E4, r4, t7, t8, (a : Int), (a : Int), (.tuple [sD "rule", sD "r", .tuple [.tuple [.str (Str.ofString "?x"), natD n]]]), rfl, (.tail _ (.tail _ (.tail _ (.tail _ (.tail _ (.tail _ (.head _))))))), .tuple (.tail _ (.tail _ (.tail _ (.tail _ (.tail _ (.tail _ (.tail _ (.head _)))))))) (.cons (.str _ _) (.cons (.str _ _) (.cons (.tuple (.tail _ (.tail _ (.tail _ (.tail _ (.tail _ (.tail _ (.tail _ (.tail _ (.head _))))))))) (.cons (.tuple (.tail _ (.tail _ (.tail _ (.tail _ (.tail _ (.tail _ (.tail _ (.tail _ (.tail _ (.head _)))))))))) (.cons (.str _ _) (.cons (.int _ _) .nil))) .nil)) .nil))), ⟨.inr (.inr ⟨_, n, rfl, .inl ⟨rfl, Nat.le_refl _⟩⟩)⟩⟩
    · cases hv
      exact ⟨E5, r5, t1, t2, (a : Int), (a : Int), (.tuple [sD "rule", sD "r", .tuple [.tuple [.str (Str.ofString "x"), natD a]]]), rfl, (.tail _ (.head _)), .tuple (.tail _ (.tail _ (.head _))) (.cons (.str _ _) (.cons (.str _ _) (.cons (.tuple (.tail _ (.tail _ (.tail _ (.head _)))) (.cons (.tuple (.tail _ (.tail _ (.tail _ (.tail _ (.head _))))) (.cons (.str _ _) (.cons (.int _ _) .nil))) .nil)) .nil))), ⟨.inr (.inr ⟨_, a, rfl, .inr rfl⟩)⟩⟩
    · simp at hv
theorem x_name (w : World) : KtsName (KK w.params) (Str.ofString "TermFault") (.ref 60) := .inl (by kernel_rfl)
theorem x_match (w : World) : exmOne (KK w.params) (.ref 60) (.ref 60) = some true := by kernel_rfl
theorem law_refused (q o : Nat) (ho : 15 ≤ o) (hq : Nat.ble q 14 = true) (hq6 : ([6, 7, 8].contains q) = false) (f st ln : Addr) (cells : List Int) (k : Nat) (S : Hs) (W : Whs S) : SCtr w mean mg mb 562 24 1000 [.ref f, .ref st, .ref ln]
   (fun news reg => FeedR w news reg f cells k ∧ StyR w news reg q o st S ∧ DatL news reg 7 ln (S.nodes.map ndat) ∧ 0 < S.nodes.length ∧ S.nodes.length ≤ 100 ∧ cells.length ≤ 48 ∧ k + 2 ≤ 100000)
   (fun news reg r news' reg' => r = .bool true ∧ FeedR w news' reg' f cells (k + 2) ∧ Gr (fun k => k = 6) reg news reg' news') := by
  unfold SCtr
  k_fill
  intro dp un gd cn cs a₀ ccd outer A₀ base h₀ g₀ L m news reg s Q E B F X N T XB TB D T0 hk hpre hdp hun hret
  refine bc fun z9 => ?_
  refine el7 hpre fun hf hS hN hn0 hn1 hc hk9 => ?_; try clear hpre
  refine ex2 hN fun vn cn' h9 => ?_; refine el3 h9 fun n1 n2 n3 => ?_; clear h9; try clear hN
  refine z9 ?_; clear z9; try k_unmd
  have hnl : vn.length = S.nodes.length := by have := n3.length; simpa using this
  k_dflt (refine' code_defS ?k1 ?k2 ?k3 ?k4 ?k5 ?XB ?TB ?D ?T0 ?kA ?k6 ?k7 ?k8 ?k9 ?kB ?_ ?cK ?c2 ?c3 ?c4 ?c5; (case kA => exact rfl); (case k2 => k_asm); (case k1 => k_asm); (case XB => assumption); (case TB => assumption); (case D => assumption); (case T0 => assumption); (case k3 => k_asm); (case k4 => k_asm); (case k5 => k_asm); (case k6 => k_is); (case k7 => k_is); (case k8 => ktr_room); (case k9 => exact BindsTo.of_eq rfl); (case kB => exact locs rfl); (case cK => first | exact rfl | assumption); (case c2 => exact rfl); (case c3 => exact rfl); (case c4 => exact rfl); (case c5 => decide); k_whole; intro g' L' h' FG' F' N' B' X' T' D'; (try dsimp only); (try k_fold))
  refine' (let AA := _; let EE := _; let QQ := _; let TT : Nat := _; (?_ : wpAny _ AA _ QQ EE ⟨_, _, _, TT, _⟩))
  refine' (let mm : Str → Option Value := _; (fun (F' : Fr _ _ _ mm) => ?_) F'); try k_unmd
  walk_at "S"
  refine llen_N (by k_asm) n1 hnl (by omega) fun t2 tk2 => ?_
  walk_at "S"
  try k_fold
  k_dflt (refine' Ctr.use (draw f cells k S.nodes.length _ hn0 hc (by omega) (by omega)) ?B ?F ?X ?N ?T ?k ?pre ?d ?u ?_)
  (case B | F | X | N | T => k_asm); (case k => first | exact rfl | assumption); (case d | u => walk_at "ROOM")
  (case pre => exact hf)
  intro r3 news3 reg3 h3 tk3 F3 N3 hp9; refine bc fun z9 => ?_
  refine el3 hp9 fun hq1 hf3 g3 => ?_; try clear hp9
  obtain ⟨t3, rfl⟩ := hq1
  refine z9 ?_; clear z9; try k_unmd
  try k_sweep
  try dsimp only
  try k_fold
  have q6 : ¬ q = 6 := fun e => by subst e; simp at hq6
  replace hS := hS.gr g3.toGw q6 (by decide) (by decide) (off_q ho (by rfl))
  replace n1 := g3.at n1 n2 (by decide)
  clear n2 n3 hf
  walk_at "S"
  refine llen_N (by k_asm) n1 hnl (by omega) fun t4 tk4 => ?_
  walk_at "S"
  rename News _ _ _ _ => N9
  refine bc fun z9 => ?_
  refine ex3 (menu_top reg3 (by rfl) (drawn_bound hn0) N9) fun NL us vs h9 => ?_; refine el7 h9 fun NNL hsL ml5 ml4 hvs hus hmenu => ?_; clear h9
  refine z9 ?_; clear z9; try k_unmd
  clear N9
  have gL : Gr (fun _ => False) reg3 news3 reg3 NL := Gr.sub hsL
  refine ladd_N (by k_asm) (by k_asm) ml4 ml5 (by rw [sizeLine_eq]; omega) fun D10 h10 F10 N10 l10 => ?_
  refine bc fun z9 => ?_
  obtain ⟨reg4, g4, r4⟩ := Gr.fresh (R := fun _ => False) (reg := reg3) (k := 3) (o := lisO (vs ++ us) 0) l10
  refine z9 ?_; clear z9; try k_unmd
  have hL := gL.trans g4
  replace hf3 := hf3.gr hL.toGw id id
  replace hS := hS.gr hL.toGw id id id off_no
  walk_at "S"
  try k_fold
  k_dflt (refine' Ctr.use (reg := reg4) (draw f cells (k + 1) 5 _ (by decide) hc (by omega) (by decide)) ?B ?F ?X ?N ?T ?k ?pre ?d ?u ?_)
  (case B | F | X | N | T => k_asm); (case k => first | exact rfl | assumption); (case d | u => walk_at "ROOM")
  (case pre => exact hf3)
  intro r11 news11 reg11 h11 tk11 F11 N11 hp9; refine bc fun z9 => ?_
  refine el3 hp9 fun hq2 hf11 g11 => ?_; try clear hp9
  obtain ⟨t11, rfl⟩ := hq2
  refine z9 ?_; clear z9; try k_unmd
  try k_sweep
  try dsimp only
  try k_fold
  have mD := g11.at (.head _) r4 (by decide)
  have hb5 := drawn_bound (cells := cells) (k := k + 1) (wide := 5) (by decide)
  obtain ⟨v, hv⟩ : ∃ v, (vs ++ us)[drawn cells (k + 1) 5]? = some v := ⟨_, List.getElem?_eq_getElem (by rw [List.length_append, hvs, hus]; exact hb5)⟩
  refine bc fun z9 => ?_
  refine ex7 (hmenu _ v hv) fun E5 r5 ta tb a5 b5 d5 hm => ?_
  refine z9 ?_; clear z9; try k_unmd
  have e5 := hm.val
  subst e5
  have m5 := g11.fixed _ (g4.fixed _ hm.mem (.inl ⟨rfl, _, _, rfl⟩)) (.inl ⟨rfl, _, _, rfl⟩)
  have d5' := (hm.dat.gr g4.toGw id).gr g11.toGw (by decide)
  have hbad := hm.bad
  replace hS := hS.gr g11.toGw q6 (by decide) (by decide) (off_q ho (by rfl))
  have gA := g3.trans (hL.no.trans g11)
  clear hm hmenu g11 g4 hL gL hf3 ml4 ml5 hsL g3 l10
  walk_at "S"
  refine item_at (by k_asm) mD hv (by omega) ?_
  refine bc fun z9 => ?_
  refine ex3 (id hS) fun sd x tk0 z => ?_
  refine z9 ?_; clear z9; try k_unmd
  have s1 := z.inst
  have s2 := z.dict
  clear z
  walk_at "S"
  k_dflt (refine' XCtr.use (reg := reg11) (story_bad q o st S a5 b5 d5 ta tb r5 W (by rw [W.len]; exact hbad)) ?B ?F ?X ?N ?T ?k ?pre ?d ?u ?_)
  (case B | F | X | N | T => k_asm); (case k => first | exact rfl | assumption); (case d | u => walk_at "ROOM")
  (case pre => exact ⟨hS, d5'⟩)
  intro G9 e9 news9 h9 tk9 F9 R9 U9 hs9
  k_dflt (refine' kts_lookSN R9 F9 ?K U9 D' ?_)
  (case K => k_asm)
  intro h10 R10 U10
  k_dflt (refine' hit_SN0 (KF := KK w.params) R10 F9 ?K U10 XB TB D' KtsTurn.refl (test_name (x_name w) (x_match w) rfl rfl (by decide)) ?_ ?hE)
  (case K => k_asm)
  (case hE => passes_own)
  intro h12 g12 T12 F12 N12 B12 X12 P12 D12
  walk_at "S"
  have gE : Gr (fun _ => False) reg11 news11 reg11 news9 := Gr.sub fun p hp => hs9 p hp
  exact hret (.bool true) news9 reg11 _ _ _ (by assumption) (by assumption) (by assumption) (by assumption) (by assumption) (by assumption) (by assumption) ⟨rfl, hf11.gr gE.toGw id id, gA.trans gE.no⟩
end
section
variable {w : World} {mean : ExcName → Option Value} {mg mb : Str → Option Value}
section
variable {f : Addr} {dd uu : Nat} {args : List Value} {dp un : Nat} {gd : Option (List Code)} {cn : Str} {cs : Scope} {a : Addr} {ccd : Value} {outer : List Env} {A₀ : Around} {base h₀ g₀ : Heap} {L : Addr}
  {m : Str → Option Value} {news : Led} {reg : Reg} {s : Shared} {Q E : Value → Shared → Prop} {Pre : Led → Reg → Prop} {Post : Led → Reg → Value → Led → Reg → Prop}
theorem SCtr.use (C : SCtr w mean mg mb f dd uu args Pre Post) (B : Below A₀ base outer h₀) (F : Fr h₀ L s.heap m) (X : (KK w.params).In h₀) (N : News h₀ L s.heap news) (T : Top VV (looseW VV []) mean mg mb h₀) (XB : (KK w.params).In base) (TB : Top VV (looseW VV []) mean mg mb base)
    (D : KtsDicts (outer.filterMap (·.frame)) h₀) (T0 : KtsTurn (outer.filterMap (·.frame)) g₀ h₀) (hk : cs.kind = .function) (pre : Pre news reg) (hd : dp + dd < recursionLimit) (hu : un + uu < cLine)
    (ret : ∀ r news' reg' h₀' h' tk', KtsTurn (outer.filterMap (·.frame)) g₀ h₀' → Fr h₀' L h' m → News h₀' L h' news' → Below A₀ base outer h₀' → (KK w.params).In h₀' → Top VV (looseW VV []) mean mg mb h₀' → KtsDicts (outer.filterMap (·.frame)) h₀' → Post news reg r news' reg' →
      Q r { s with heap := h', toks := tk' }) :
    wpAny (model PySem.Challenge.rw_pq0074_01.row.prog w) (ktrTop dp un gd cn cs L a ccd [] outer) (call (.ref f) args) Q E s := wpAny_call (C _ _ _ _ _ _ _ _ _ _ _ _ _ _ _ _ _ _ _ B F X N T XB TB D T0 hk pre hd hu ret)
end
noncomputable def wayOf (cells : List Int) (S : Hs) (k : Nat) : Nat × Nat := if S.nodes = [] then (0, k) else (drawn cells k 6, k + 1)
noncomputable def deed (cells : List Int) (S : Hs) (k : Nat) : Hs × Nat :=
  if (wayOf cells S k).1 < 2 then (((ltree cells 2 (wayOf cells S k).2).1.put S).1, (ltree cells 2 (wayOf cells S k).2).2)
  else if (wayOf cells S k).1 < 4 then (S.wmerge (drawn cells (wayOf cells S k).2 S.nodes.length) (drawn cells ((wayOf cells S k).2 + 1) S.nodes.length) (mrRsn cells (wayOf cells S k).2 S.nodes.length), (wayOf cells S k).2 + 3)
  else if (wayOf cells S k).1 = 5 then (S, (wayOf cells S k).2 + 2)
  else (S.wsettle, (wayOf cells S k).2)
theorem ltree_fine (cells : List Int) : ∀ d k, (ltree cells d k).1.fine
  | 0, k => by
    show OpF (opA _)
    unfold opA
    split
    · exact .inl rfl
    · exact .inr (.inl rfl)
  | d + 1, k => by
    unfold ltree
    split
    · show OpF (opA _)
      unfold opA
      split
      · exact .inl rfl
      · exact .inr (.inl rfl)
    · split
      · exact ⟨.inr (.inr rfl), ltree_fine cells d _, ltree_fine cells d _⟩
      · exact ⟨.inr (.inr rfl), ltree_fine cells d _⟩
theorem ltree_size (cells : List Int) : ∀ d k, (ltree cells d k).1.size + 1 ≤ 2 ^ (d + 1) ∧ (ltree cells d k).1.h ≤ d + 1
  | 0, k => by simp [ltree, Tr.size, Tr.h]
  | d + 1, k => by
    have h0 := Nat.two_pow_pos d
    have e : 2 ^ (d + 1 + 1) = 2 ^ (d + 1) + 2 ^ (d + 1) := by rw [Nat.pow_succ]; omega
    have e' : 2 ^ (d + 1) = 2 ^ d + 2 ^ d := by rw [Nat.pow_succ]; omega
    have h1 := ltree_size cells d (k + 1)
    have h2 := ltree_size cells d (ltree cells d (k + 1)).2
    unfold ltree
    rw [e]
    have h5 : 0 < 2 ^ (d + 1) := Nat.two_pow_pos (d + 1)
    have h6 : 2 ≤ 2 ^ (d + 1) := by omega
    clear e e' h0
    generalize 2 ^ (d + 1) = P at *
    split
    · simp only [Tr.size, Tr.h]; omega
    · split
      · simp only [Tr.size, Tr.h]; omega
      · simp only [Tr.size, Tr.h]; omega
noncomputable def WayEnd (w : World) (g' : Heap) (L' : Addr) (mm : Str → Option Value) (reg : Reg) (news : Led) (f : Addr) (cells : List Int) (n k : Nat) (s : Shared) (v : Value) (s₁ : Shared) : Prop :=
  ∃ t news₁ reg₁ h₁ tk₁, v = .int (n : Int) t ∧ s₁ = { s with heap := h₁, toks := tk₁ } ∧ Fr g' L' h₁ mm ∧ News g' L' h₁ news₁ ∧ FeedR w news₁ reg₁ f cells k ∧ Gr (fun k => k = 6) reg news reg₁ news₁
theorem nodes_shaped {nodes : List Node} (h : ∀ n ∈ nodes, OpF n.1) : SeqAt.shaped (.list (nodes.map ndat)) = true := by
  refine pure_shaped (n := 2) ?_ (by decide)
  rw [pureD, List.all_eq_true]
  intro x hx
  obtain ⟨n, hn, rfl⟩ := List.mem_map.mp hx
  exact ndat_pure (h n hn)
theorem eqv_nil (ds : List PyData) : PyData.eqv (.list ds) (.list []) = decide (ds = []) := by cases ds <;> rfl
theorem wsettle_nr {S : Hs} (W : Whs S) : S.wsettle.nodes = S.nodes ∧ S.wsettle.rows = (if S.wait = [] then S.rows else S.rows ++ [Row.settle]) ∧ S.wsettle.wait = [] ∧ Whs S.wsettle := by
  by_cases hw : S.wait = []
  · have e : S.wsettle = S := by unfold Hs.wsettle; rw [if_pos hw]
    rw [e, if_pos hw]
    exact ⟨rfl, rfl, hw, W⟩
  · have e0 : S.wsettle = ({ S with rows := S.rows ++ [Row.settle] } : Hs).settle := by unfold Hs.wsettle; rw [if_neg hw]
    have W1 : Whs ({ S with rows := S.rows ++ [Row.settle] } : Hs) := W.rows_more (by simp)
    obtain ⟨W2, e, en, eu, ew⟩ := Whs.settleN W1 (Nat.le_refl _)
    rw [e0, if_neg hw]
    exact ⟨en, e, ew, W2⟩
theorem law_done (q o : Nat) (ho : 15 ≤ o) (hq : Nat.ble q 14 = true) (hq6 : ([6, 7, 8].contains q) = false) (f st ln lr : Addr) (cells : List Int) (k : Nat) (S : Hs) (G : Good S) : SCtr w mean mg mb 569 80 3000 [.ref f, .ref st, .ref ln, .ref lr]
   (fun news reg => FeedR w news reg f cells k ∧ StyR w news reg q o st S ∧ Mir news reg ln lr (S.nodes, S.rows) ∧ S.up.length + 7 ≤ 63 ∧ S.rows.length + 7 ≤ 900 ∧ cells.length ≤ 48 ∧ k + 20 ≤ 100000)
   (fun news reg r news' reg' => r = .bool true ∧ FeedR w news' reg' f cells (deed cells S k).2 ∧ StyR w news' reg' q o st (deed cells S k).1 ∧ Mir news' reg' ln lr ((deed cells S k).1.nodes, (deed cells S k).1.rows) ∧ Gr (DR o) reg news reg' news') := by
  unfold SCtr
  k_fill
  intro dp un gd cn cs a₀ ccd outer A₀ base h₀ g₀ L m news reg s Q E B F X N T XB TB D T0 hk hpre hdp hun hret
  refine bc fun z9 => ?_
  refine el7 hpre fun hf hS hM hup hrw hc hk9 => ?_; try clear hpre
  refine ex2 hM.nodes fun vn cn' h9 => ?_; refine el3 h9 fun n1 n2 n3 => ?_; clear h9
  refine z9 ?_; clear z9; try k_unmd
  have hlen := G.w.len
  have q6 : ¬ q = 6 := fun e => by subst e; simp at hq6
  have q78 : ¬ (q = 7 ∨ q = 8) := fun e => by rcases e with e | e <;> (subst e; simp at hq6)
  k_dflt (refine' code_defS ?k1 ?k2 ?k3 ?k4 ?k5 ?XB ?TB ?D ?T0 ?kA ?k6 ?k7 ?k8 ?k9 ?kB ?_ ?cK ?c2 ?c3 ?c4 ?c5; (case kA => exact rfl); (case k2 => k_asm); (case k1 => k_asm); (case XB => assumption); (case TB => assumption); (case D => assumption); (case T0 => assumption); (case k3 => k_asm); (case k4 => k_asm); (case k5 => k_asm); (case k6 => k_is); (case k7 => k_is); (case k8 => ktr_room); (case k9 => exact BindsTo.of_eq rfl); (case kB => exact locs rfl); (case cK => first | exact rfl | assumption); (case c2 => exact rfl); (case c3 => exact rfl); (case c4 => exact rfl); (case c5 => decide); k_whole; intro g' L' h' FG' F' N' B' X' T' D'; (try dsimp only); (try k_fold))
  refine' (let AA := _; let EE := _; let QQ := _; let TT : Nat := _; (?_ : wpAny _ AA _ QQ EE ⟨_, _, _, TT, _⟩))
  refine' (let mm : Str → Option Value := _; (fun (F' : Fr _ _ _ mm) => ?_) F'); try k_unmd
  repeat' (first | ((try k_unmd); k_unfold; (try dsimp only)) | ((try dsimp only); (fail_if_success (with_reducible show wpAny _ _ (eval (Expr.IfExp _ _ _ _) _) _ _ _)); walk1) | (leave1; try dsimp only))
  refine bc fun z9 => ?_
  obtain ⟨mm, hmm, F0⟩ : ∃ mm, mm = _ ∧ Fr g' L' h' mm := ⟨_, rfl, F'⟩
  refine z9 ?_; clear z9; try k_unmd
  refine wpAny_mono (Q := WayEnd w g' L' mm reg news f cells (wayOf cells S k).1 (wayOf cells S k).2 s) ?_ ?_ fun _ _ z => z
  · subst hmm
    walk_at "S"
    rename News _ _ _ _ => N2
    refine neR (da := .list (S.nodes.map ndat)) (db := .list []) (lis_reads (reg := reg) (by k_asm) (.tail _ n1) (n3.gr (Gr.cons (R := fun _ => False)).toGw id)) (lis_reads (reg := reg) (by k_asm) (.head _) .nil) (nodes_shaped G.nds) rfl (by walk_at "ROOM") ?_
    rw [eqv_nil]
    by_cases hn : S.nodes = []
    · rw [hn]
      have e : wayOf cells S k = (0, k) := if_pos hn
      rw [e]
      walk_at "S"
      exact ⟨_, _, reg, _, _, rfl, rfl, by k_asm, by k_asm, hf.gr (Gr.cons (R := fun _ => False)).toGw id id, Gr.cons⟩
    · have e : wayOf cells S k = (drawn cells k 6, k + 1) := if_neg hn
      rw [e]
      rw [show (!decide (S.nodes.map ndat = [])) = true by simp [hn]]
      walk_at "S"
      try k_fold
      k_dflt (refine' Ctr.use (reg := reg) (draw f cells k 6 _ (by decide) hc (by omega) (by decide)) ?B ?F ?X ?N ?T ?k ?pre ?d ?u ?_)
      (case B | F | X | N | T => k_asm); (case k => first | exact rfl | assumption); (case d | u => walk_at "ROOM")
      (case pre => exact hf.gr (Gr.cons (R := fun _ => False)).toGw id id)
      intro r3 news3 reg3 h3 tk3 F3 N3 hp9; refine bc fun z9 => ?_
      refine el3 hp9 fun hq1 hf3 g3 => ?_; try clear hp9
      obtain ⟨t3, rfl⟩ := hq1
      refine z9 ?_; clear z9; try k_unmd
      try k_sweep
      try dsimp only
      try k_fold
      exact ⟨_, news3, reg3, _, _, rfl, rfl, by k_asm, by k_asm, hf3, Gr.cons.trans g3⟩
  · rintro v s₁ ⟨t1, news1, reg1, h1, tk1, rfl, rfl, F1, N1, hf1, g1⟩
    subst hmm
    have hS1 := hS.gr g1.toGw q6 (by decide) (by decide) (off_q ho (by rfl))
    have hM1 := hM.gr g1.toGw (by decide) (by decide) (by decide)
    clear F0 F' N' n1 n2 n3
    have hkk : (wayOf cells S k).2 ≤ k + 1 := by unfold wayOf; split <;> simp
    have hnn : ¬ (wayOf cells S k).1 < 2 → 0 < S.nodes.length := by
      unfold wayOf
      split
      · intro h; simp at h
      · intro _; exact List.length_pos_iff.mpr ‹_›
    refine bc fun z9 => ?_
    obtain ⟨wv, hwv⟩ : ∃ wv, (wayOf cells S k).1 = wv := ⟨_, rfl⟩
    obtain ⟨wk, hwk⟩ : ∃ wk, (wayOf cells S k).2 = wk := ⟨_, rfl⟩
    refine z9 ?_; clear z9; try k_unmd
    rw [hwv] at hnn ⊢
    rw [hwk] at hf1 hkk
    walk_at "S"
    ·
      have hlt : wv < 2 := by omega
      have ed : deed cells S k = (((ltree cells 2 wk).1.put S).1, (ltree cells 2 wk).2) := by unfold deed; rw [hwv, hwk, if_pos hlt]
      rw [ed] at hret
      try k_fold
      k_dflt (refine' Ctr.use (reg := reg1) (ltree_ctr 2 (Nat.le_refl 2) f cells wk _ hc (by omega)) ?B ?F ?X ?N ?T ?k ?pre ?d ?u ?_)
      (case B | F | X | N | T => k_asm); (case k => first | exact rfl | assumption); (case d | u => walk_at "ROOM")
      (case pre => exact hf1)
      intro r4 news4 reg4 h4 tk4 F4 N4 hp9; refine bc fun z9 => ?_
      refine el3 hp9 fun hd4 hf4 g4 => ?_; try clear hp9
      refine z9 ?_; clear z9; try k_unmd
      try k_sweep
      try dsimp only
      try k_fold
      replace hS1 := hS1.gr g4.toGw q6 (by decide) (by decide) (off_q ho (by rfl))
      replace hM1 := hM1.gr g4.toGw (by decide) (by decide) (by decide)
      have hfine := ltree_fine cells 2 wk
      obtain ⟨hsz, hht⟩ := ltree_size cells 2 wk
      generalize (ltree cells 2 wk).1 = t4 at hd4 hfine hsz hht hret
      obtain ⟨ta, rfl⟩ : ∃ ta, r4 = .ref ta := by
        rw [t4.dat_eq] at hd4
        cases hd4 with
        | tuple => exact ⟨_, rfl⟩
      have ewr := wr_put t4 G hfine (by omega) (by omega)
      refine bc fun z9 => ?_
      refine ex3 (id hS1) fun sd x tk0 z => ?_
      refine z9 ?_; clear z9; try k_unmd
      have s1 := z.inst
      have s2 := z.dict
      clear z
      walk_at "S"
      try k_fold
      k_dflt (refine' Ctr.use (reg := reg4) (story_put q o ho hq st S t4 ta G.w) ?B ?F ?X ?N ?T ?k ?pre ?d ?u ?_)
      (case B | F | X | N | T => k_asm); (case k => first | exact rfl | assumption); (case d | u => walk_at "ROOM")
      (case pre => exact ⟨hS1, hd4, hfine.ok, by omega, by omega⟩)
      intro r5 news5 reg5 h5 tk5 F5 N5 hp9; refine bc fun z9 => ?_
      refine el3 hp9 fun hq2 hS5 g5 => ?_; try clear hp9
      obtain ⟨t5, rfl⟩ := hq2
      refine z9 ?_; clear z9; try k_unmd
      try k_sweep
      try dsimp only
      try k_fold
      walk_at "S"
      try k_fold
      k_dflt (refine' Ctr.use (reg := reg5) (lwr_ctr t4 (S.nodes, S.rows) ln lr ta) ?B ?F ?X ?N ?T ?k ?pre ?d ?u ?_)
      (case B | F | X | N | T => k_asm); (case k => first | exact rfl | assumption); (case d | u => walk_at "ROOM")
      (case pre => exact ⟨hM1.gr g5.toGw (rs_big ho rfl) (rs_big ho rfl) (rs_big ho rfl), hd4.gr g5.toGw (rs_big ho rfl), hfine, G.nds, by show S.nodes.length + _ ≤ _; omega, by show S.rows.length + _ ≤ _; omega⟩)
      intro r6 news6 reg6 h6 tk6 F6 N6 hp9; refine bc fun z9 => ?_
      refine el3 hp9 fun hq3 hM6 g6 => ?_; try clear hp9
      obtain ⟨t6, rfl⟩ := hq3
      refine z9 ?_; clear z9; try k_unmd
      try k_sweep
      try dsimp only
      try k_fold
      rw [ewr] at hM6 ⊢
      walk_at "S"
      exact hret _ news6 reg6 _ _ _ (by assumption) (by assumption) (by assumption) (by assumption) (by assumption) (by assumption) (by assumption) ⟨by simp, (hf4.gr g5.toGw (rs_big ho rfl) (rs_big ho rfl)).gr g6.toGw (by decide) (by decide), hS5.gr g6.toGw q78 (by decide) (by decide) (fun n _ h => by rcases h with h | h <;> omega), hM6, g1.d6.trans (g4.d6.trans (g5.dr.trans g6.d78))⟩
    ·
      have ed : deed cells S k = (S.wmerge (drawn cells wk S.nodes.length) (drawn cells (wk + 1) S.nodes.length) (mrRsn cells wk S.nodes.length), wk + 3) := by unfold deed; rw [hwv, hwk, if_neg (by omega), if_pos (by omega)]
      rw [ed] at hret
      have hn0 := hnn (by omega)
      have hb1 := drawn_bound (cells := cells) (k := wk) hn0
      have hb2 := drawn_bound (cells := cells) (k := wk + 1) hn0
      try k_fold
      k_dflt (refine' Ctr.use (reg := reg1) (law_merged q o ho hq hq6 f st ln lr cells wk S G.w) ?B ?F ?X ?N ?T ?k ?pre ?d ?u ?_)
      (case B | F | X | N | T => k_asm); (case k => first | exact rfl | assumption); (case d | u => walk_at "ROOM")
      (case pre => exact ⟨hf1, hS1, hM1, hn0, by omega, by omega, hc, by omega⟩)
      intro r4 news4 reg4 h4 tk4 F4 N4 hp9; refine bc fun z9 => ?_
      refine el5 hp9 fun hq4 hf4 hS4 hM4 g4 => ?_; try clear hp9
      obtain rfl := hq4
      refine z9 ?_; clear z9; try k_unmd
      try k_sweep
      try dsimp only
      try k_fold
      walk_at "S"
      obtain ⟨e1, e2⟩ := wmerge_nr (r := mrRsn cells wk S.nodes.length) G.w (a := drawn cells wk S.nodes.length) (b := drawn cells (wk + 1) S.nodes.length) (by omega) (by omega)
      exact hret _ news4 reg4 _ _ _ (by assumption) (by assumption) (by assumption) (by assumption) (by assumption) (by assumption) (by assumption) ⟨rfl, hf4, hS4, by rw [e1, e2]; exact hM4, g1.d6.trans g4⟩
    ·
      have ed : deed cells S k = (S, wk + 2) := by unfold deed; rw [hwv, hwk, if_neg (by omega), if_neg (by omega), if_pos (by omega)]
      rw [ed] at hret
      have hn0 := hnn (by omega)
      k_dflt (refine' SCtr.use (reg := reg1) (law_refused q o ho hq hq6 f st ln cells wk S G.w) ?B ?F ?X ?N ?T XB TB D' KtsTurn.refl ?k ?pre ?d ?u ?_)
      (case B | F | X | N | T => k_asm); (case k => first | exact rfl | assumption); (case d | u => walk_at "ROOM")
      (case pre => exact ⟨hf1, hS1, hM1.nodes, hn0, by omega, hc, by omega⟩)
      rintro r4 news4 reg4 g9 h4 tk4 T9 F4 N4 B9 X9 P9 D9 ⟨rfl, hf4, g4⟩
      try k_sweep
      try dsimp only
      try k_fold
      walk_at "S"
      exact hret _ news4 reg4 _ _ _ (by assumption) (by assumption) (by assumption) (by assumption) (by assumption) (by assumption) (by assumption) ⟨rfl, hf4, hS1.gr g4.toGw q6 (by decide) (by decide) (off_q ho (by rfl)), hM1.gr g4.toGw (by decide) (by decide) (by decide), g1.d6.trans g4.d6⟩
    ·
      have ed : deed cells S k = (S.wsettle, wk) := by unfold deed; rw [hwv, hwk, if_neg (by omega), if_neg (by omega), if_neg (by omega)]
      rw [ed] at hret
      refine bc fun z9 => ?_
      refine el4 (wsettle_nr G.w) fun en er ew W2 => ?_
      refine z9 ?_; clear z9; try k_unmd
      have hfit := (G.w.fits (by omega)).wait
      refine bc fun z9 => ?_
      refine ex3 (id hS1) fun sd x tk0 z => ?_
      refine z9 ?_; clear z9; try k_unmd
      have s1 := z.inst
      have s2 := z.dict
      have hH := z.heap
      obtain ⟨HA, zz⟩ := id hH
      have s3 := zz.obj.inst
      have s4 := zz.obj.dict
      clear zz z
      refine bc fun z9 => ?_
      refine ex2 hM1.rows fun vr cr h9 => ?_; refine el3 h9 fun r1 r2 r3 => ?_; clear h9
      refine z9 ?_; clear z9; try k_unmd
      have hrl : vr.length = S.rows.length := by have := r3.length; simpa using this
      walk_at "S"
      try k_fold
      k_dflt (refine' RCtr.use (heap_settled o x S) ?B ?F ?X ?N ?T ?k ?pre ?d ?u ?_)
      (case B | F | X | N | T => k_asm); (case k => first | exact rfl | assumption); (case d | u => walk_at "ROOM")
      (case pre => exact ⟨hH, by omega⟩)
      intro r' h' tk' F' N' hp'; (try k_sweep); (first | (obtain ⟨t', e'⟩ := hp'; subst e') | (have e' := hp'; subst e')); (try dsimp only); (try k_fold)
      by_cases hw : S.wait = []
      · rw [show S.wait.isEmpty = true by rw [hw]; rfl]
        rw [if_pos hw] at er
        walk_at "S"
        try k_fold
        k_dflt (refine' Ctr.use (reg := reg1) (story_settle q o ho hq st S G.w) ?B ?F ?X ?N ?T ?k ?pre ?d ?u ?_)
        (case B | F | X | N | T => k_asm); (case k => first | exact rfl | assumption); (case d | u => walk_at "ROOM")
        (case pre => exact ⟨hS1, by omega⟩)
        intro r4 news4 reg4 h4 tk4 F4 N4 hp9; refine bc fun z9 => ?_
        refine el3 hp9 fun hq5 hS4 g4 => ?_; try clear hp9
        obtain rfl := hq5
        refine z9 ?_; clear z9; try k_unmd
        try k_sweep
        try dsimp only
        try k_fold
        refine bc fun z9 => ?_
        refine ex3 (id hS4) fun sd' x' tk0' z' => ?_
        refine z9 ?_; clear z9; try k_unmd
        replace s1 := z'.inst
        replace s2 := z'.dict
        have hH4 := z'.heap
        obtain ⟨HA', zz'⟩ := id hH4
        replace s3 := zz'.obj.inst
        replace s4 := zz'.obj.dict
        clear zz' z' r1
        walk_at "S"
        try k_fold
        k_dflt (refine' RCtr.use (heap_settled o x' S.wsettle) ?B ?F ?X ?N ?T ?k ?pre ?d ?u ?_)
        (case B | F | X | N | T => k_asm); (case k => first | exact rfl | assumption); (case d | u => walk_at "ROOM")
        (case pre => exact ⟨hH4, by rw [ew]; simp⟩)
        intro r' h' tk' F' N' hp'; (try k_sweep); (first | (obtain ⟨t', e'⟩ := hp'; subst e') | (have e' := hp'; subst e')); (try dsimp only); (try k_fold)
        rw [show S.wsettle.wait.isEmpty = true by rw [ew]; rfl]
        walk_at "S"
        exact hret _ news4 reg4 _ _ _ (by assumption) (by assumption) (by assumption) (by assumption) (by assumption) (by assumption) (by assumption) ⟨rfl, hf1.gr g4.toGw (rs_big ho rfl) (rs_big ho rfl), hS4, by rw [en, er]; exact hM1.gr g4.toGw (rs_big ho rfl) (rs_big ho rfl) (rs_big ho rfl), g1.d6.trans g4.dr⟩
      · rw [show S.wait.isEmpty = false by cases q : S.wait <;> simp_all]
        rw [if_neg hw] at er
        walk_at "S"
        refine append_N (r := 8) (reg := reg1) (by k_asm) (by k_asm) (.tail _ r1) r2 (by rw [sizeLine_eq]; omega) fun h10 news10 F10 N10 g10 m10 => ?_
        k_sweep
        have hT := g10.tup (.head _)
        have gC : Gr (fun k => k = 8) reg1 news1 reg1 news10 := Gr.cons.trans g10.toGr
        have hS10 := hS1.gr gC.toGw (fun e => q78 (.inr e)) (by decide) (by decide) (off_q ho (by rfl))
        have hM10 : Mir news10 reg1 ln lr (S.nodes, S.rows ++ [Row.settle]) := by
          refine ⟨hM1.nodes.gr gC.toGw (by decide) (by decide), ⟨_, _, m10, r2, ?_⟩⟩
          dsimp only
          rw [List.map_append]
          exact (r3.gr gC.toGw (by decide)).append (.cons (.tuple hT (.cons (.str _ _) .nil)) .nil)
        refine bc fun z9 => ?_
        refine ex3 (id hS10) fun sd2 x2 tk2 z2 => ?_
        refine z9 ?_; clear z9; try k_unmd
        replace s1 := z2.inst
        replace s2 := z2.dict
        clear z2 r1 s3 s4
        walk_at "S"
        try k_fold
        k_dflt (refine' Ctr.use (reg := reg1) (story_settle q o ho hq st S G.w) ?B ?F ?X ?N ?T ?k ?pre ?d ?u ?_)
        (case B | F | X | N | T => k_asm); (case k => first | exact rfl | assumption); (case d | u => walk_at "ROOM")
        (case pre => exact ⟨hS10, by omega⟩)
        intro r4 news4 reg4 h4 tk4 F4 N4 hp9; refine bc fun z9 => ?_
        refine el3 hp9 fun hq6 hS4 g4 => ?_; try clear hp9
        obtain rfl := hq6
        refine z9 ?_; clear z9; try k_unmd
        try k_sweep
        try dsimp only
        try k_fold
        refine bc fun z9 => ?_
        refine ex3 (id hS4) fun sd' x' tk0' z' => ?_
        refine z9 ?_; clear z9; try k_unmd
        replace s1 := z'.inst
        replace s2 := z'.dict
        have hH4 := z'.heap
        obtain ⟨HA', zz'⟩ := id hH4
        have s3 := zz'.obj.inst
        have s4 := zz'.obj.dict
        clear zz' z'
        walk_at "S"
        try k_fold
        k_dflt (refine' RCtr.use (heap_settled o x' S.wsettle) ?B ?F ?X ?N ?T ?k ?pre ?d ?u ?_)
        (case B | F | X | N | T => k_asm); (case k => first | exact rfl | assumption); (case d | u => walk_at "ROOM")
        (case pre => exact ⟨hH4, by rw [ew]; simp⟩)
        intro r' h' tk' F' N' hp'; (try k_sweep); (first | (obtain ⟨t', e'⟩ := hp'; subst e') | (have e' := hp'; subst e')); (try dsimp only); (try k_fold)
        rw [show S.wsettle.wait.isEmpty = true by rw [ew]; rfl]
        walk_at "S"
        exact hret _ news4 reg4 _ _ _ (by assumption) (by assumption) (by assumption) (by assumption) (by assumption) (by assumption) (by assumption) ⟨rfl, (hf1.gr gC.toGw (by decide) (by decide)).gr g4.toGw (rs_big ho rfl) (rs_big ho rfl), hS4, by rw [en, er]; exact hM10.gr g4.toGw (rs_big ho rfl) (rs_big ho rfl) (rs_big ho rfl), g1.d6.trans (gC.d8.trans g4.dr)⟩
end
section
variable {w : World} {mean : ExcName → Option Value} {mg mb : Str → Option Value}
noncomputable def stD (S : Hs) : PyData := .tuple [natD S.nodes.length, .list ((List.range S.nodes.length).map fun i => natD (root S.up i)), natD S.nE, .bool S.wait.isEmpty, .list (S.rows.map Row.dat)]
theorem law_state (q o : Nat) (ho : 15 ≤ o) (hq : Nat.ble q 14 = true) (st : Addr) (S : Hs) (W : Whs S) : Ctr w mean mg mb 574 8 400 [.ref st]
   (fun news reg => StyR w news reg q o st S ∧ S.rows.length ≤ 1000)
   (fun news reg r news' reg' => DT news' reg' r (stD S) ∧ Gr (fun _ => False) reg news reg' news') := by
  unfold Ctr
  k_fill
  intro dp un gd cn cs a₀ ccd cl outer A₀ base h₀ L m news reg s Q E B F X N T hk hpre hdp hun hret
  obtain ⟨hS, hrw⟩ := hpre
  have hlen := W.len
  have hn := W.n
  k_dflt (refine' code_defC ?k1 ?k2 ?k3 ?k4 ?k5 ?kA ?kF ?kK ?k6 ?k7 ?k8 ?k9 ?kB ?kD ?_ ?c2 ?c3 ?c4; (case kA => exact rfl); (case kF => exact rfl); (case kK => assumption); (case k1 => k_asm); (case k2 => k_asm); (case k3 => k_asm); (case k4 => k_asm); (case k5 => k_asm); (case k6 => k_is); (case k7 => k_is); (case k8 => ktr_room); (case k9 => exact BindsTo.of_eq rfl); (case kB => exact rfl); (case kD => decide +kernel); (case c2 => exact rfl); (case c3 => exact rfl); (case c4 => exact rfl); k_whole; intro g' L' h' tk' cells' FG' F' N' Y' B' X' T' l1; k_cells Y'; (try simp only [List.cons_append, List.nil_append] at N'); (try dsimp only); (try k_fold))
  refine' (let AA := _; let EE := _; let QQ := _; let TT : Nat := _; (?_ : wpAny _ AA _ QQ EE ⟨_, _, _, TT, _⟩))
  refine' (let mm : Str → Option Value := _; (fun (F' : Fr _ _ _ mm) => ?_) F'); try k_unmd
  rename_i o1 d1
  replace d1 : o1.data = .cell none := d1
  refine bc fun z9 => ?_
  obtain ⟨reg1, g1, rc⟩ := Gr.fresh (R := fun _ => False) (reg := reg) (k := 3) (o := o1) (fun p hp => Nat.lt_succ_of_lt (l1 p hp))
  refine ex3 hS fun sd x tk0 z => ?_; try clear hS
  refine z9 ?_; clear z9; try k_unmd
  have s1 := (z.gr g1.toGw id id id off_no).inst
  have s2 := (z.gr g1.toGw id id id off_no).dict
  walk_at "S"
  rename News _ _ _ _ => N4
  refine' storeX_C ?F (led_split N4 (.head _)) ?hc led_updF d1 ?_ ?hk ?hx
  (case F => k_asm); (case hc => rfl); (case hk => rfl); (case hx => rfl)
  intro h5 o5 F5 N5 d5
  have p5 := gr_put (o' := o5) (reg := reg1) N4 (.head _) (fun h => by rcases h with ⟨_, _, _, h⟩ | ⟨_, h⟩ <;> rw [d1] at h <;> cases h) rc
  have mc : (Nat.succ L', o5) ∈ (Nat.succ L', o5) :: others ((Nat.succ L', o1) :: news) (Nat.succ L') := .head _
  generalize (Nat.succ L', o5) :: others ((Nat.succ L', o1) :: news) (Nat.succ L') = G5 at p5 mc N5
  have gN : Gr (fun _ => False) reg news reg1 G5 := (g1.toLo.trans p5.toLo).gr fun p hp => Nat.lt_succ_of_lt (l1 p hp)
  clear N4 s1 s2 p5
  replace z := z.gr gN.toGw id id id off_no
  have hS : StyR w G5 reg1 q o st S := ⟨sd, x, tk0, z⟩
  have s1 := z.inst
  have s2 := z.dict
  have hH := z.heap
  obtain ⟨A, zz⟩ := id hH
  have s3 := zz.obj.inst
  have s4 := zz.obj.dict
  have hE := zz.edges
  clear zz z
  walk_at "S"
  try k_fold
  k_dflt (refine' RCtr.use (heap_size o x S S.nodes.length rfl) ?B ?F ?X ?N ?T ?k ?pre ?d ?u ?_)
  (case B | F | X | N | T => k_asm); (case k => first | exact rfl | assumption); (case d | u => walk_at "ROOM")
  (case pre => exact hH)
  intro r' h' tk' F' N' hp'; (try k_sweep); (first | (obtain ⟨t', e'⟩ := hp'; subst e') | (have e' := hp'; subst e')); (try dsimp only); (try k_fold)
  walk_at "S"
  try k_fold
  k_dflt (refine' RCtr.use (heap_size o x S S.nodes.length rfl) ?B ?F ?X ?N ?T ?k ?pre ?d ?u ?_)
  (case B | F | X | N | T => k_asm); (case k => first | exact rfl | assumption); (case d | u => walk_at "ROOM")
  (case pre => exact hH)
  intro r' h' tk' F' N' hp'; (try k_sweep); (first | (obtain ⟨t', e'⟩ := hp'; subst e') | (have e' := hp'; subst e')); (try dsimp only); (try k_fold)
  walk_at "S"
  refine range1_rows (by k_asm) (by k_asm) fun h7 tk7 t7 u7 v7 hr7 F7 N7 hk7 => ?_
  walk_at "S"
  refine' comp_range (n := S.nodes.length) (news := G5) (reg := reg1) (fun ys news₁ reg₁ => DTs news₁ reg₁ ys ((List.range ys.length).map fun i => natD (root S.up i)) ∧ Gr (fun _ => False) reg1 G5 reg₁ news₁) ?hh hr7 ?n2 ?F ?N ?J ?mono ?n 2 ?c ?k ?x ?turn ?done
  (case hh => rfl); (case n2 => omega); (case F => k_asm); (case N => k_asm); (case n => rw [sizeLine_eq]; omega)
  (case J => exact ⟨.nil, Gr.refl⟩)
  (case mono => exact fun b ys news₁ reg₁ news' reg' hb h gw l => ⟨h.1.gr gw (by decide), h.2.lo hb l⟩)
  (case c => decide); (case k => rfl); (case x => rfl)
  case turn =>
    intro ys t8 C oC mC news₁ reg₁ h tk E' hl hp9 hC rC hns hmv F1 N1
    obtain ⟨hy, g⟩ := hp9
    replace F1 : Fr g' L' h _ := F1
    replace N1 : News g' L' h news₁ := N1
    have mc1 := g.keep _ mc id
    have k3 := g.inst s3
    have k4 := g.keep _ s4 id
    walk_at "S"
    try k_fold
    k_dflt (refine' RCtr.use (heap_find o x S ys.length _) ?B ?F ?X ?N ?T ?k ?pre ?d ?u ?_)
    (case B | F | X | N | T => k_asm); (case k => first | exact rfl | assumption); (case d | u => walk_at "ROOM")
    (case pre => exact ⟨hH.gr g.toGw id id off_no, by omega⟩)
    intro r' h' tk' F' N' hp'; (try k_sweep); (first | (obtain ⟨t', e'⟩ := hp'; subst e') | (have e' := hp'; subst e')); (try dsimp only); (try k_fold)
    walk_at "S"
    refine EltEnd.mk (news₂ := news₁) (reg₂ := reg₁) (fun _ => False) (by k_asm) (by k_asm) (id) (Gr.refl) ⟨?_, g⟩
    rw [List.length_append, List.length_singleton, List.range_succ, List.map_append]
    exact hy.append (.cons (.int _ _) .nil)
  case done =>
    intro ys D c news₁ reg₁ h tk hl hp9 hD rD ltD F1 N1
    obtain ⟨hy, g⟩ := hp9
    replace F1 : Fr g' L' h _ := F1
    replace N1 : News g' L' h news₁ := N1
    rw [hl] at hy
    have mc1 := g.keep _ mc id
    replace s1 := g.inst s1
    replace s2 := g.keep _ s2 id
    replace s3 := g.inst s3
    replace s4 := g.keep _ s4 id
    replace hS := hS.gr g.toGw id id id off_no
    replace hH := hH.gr g.toGw id id off_no
    refine bc fun z9 => ?_
    refine ex2 (hE.gr g.toGw id) fun vE cE h9 => ?_; refine el3 h9 fun e1 e2 e3 => ?_; clear h9
    refine z9 ?_; clear z9; try k_unmd
    have hfit := W.fits (by omega)
    have he := hfit.e
    have hw := hfit.wait
    walk_at "S"
    refine llen_N (by k_asm) e1 e3 (by omega) fun t9 tk9 => ?_
    walk_at "S"
    try k_fold
    k_dflt (refine' RCtr.use (heap_settled o x S) ?B ?F ?X ?N ?T ?k ?pre ?d ?u ?_)
    (case B | F | X | N | T => k_asm); (case k => first | exact rfl | assumption); (case d | u => walk_at "ROOM")
    (case pre => exact ⟨hH, by omega⟩)
    intro r' h' tk' F' N' hp'; (try k_sweep); (first | (obtain ⟨t', e'⟩ := hp'; subst e') | (have e' := hp'; subst e')); (try dsimp only); (try k_fold)
    walk_at "S"
    try k_fold
    k_dflt (refine' Ctr.use (reg := reg₁) (story_rows q o ho st S) ?B ?F ?X ?N ?T ?k ?pre ?d ?u ?_)
    (case B | F | X | N | T => k_asm); (case k => first | exact rfl | assumption); (case d | u => walk_at "ROOM")
    (case pre => exact ⟨hS, by omega⟩)
    intro r10 news10 reg10 h10 tk10 F10 N10 hp9; refine bc fun z9 => ?_
    refine ex1 hp9 fun lr10 h9 => ?_; refine el3 h9 fun hq1 hl10 g10 => ?_; clear h9; try clear hp9
    obtain rfl := hq1
    refine z9 ?_; clear z9; try k_unmd
    try k_sweep
    try dsimp only
    try k_fold
    have hD10 := g10.at hD rD id
    have rD10 := g10.regw hD rD id
    replace hy := hy.gr g10.toGw id
    walk_at "S"
    refine hret _ _ reg10 _ _ (by k_asm) (by k_asm) ⟨.tuple (.head _) (.cons (.int _ _) (.cons ?_ (.cons (.int _ _) (.cons (.bool _) (.cons (hl10.gr (Gr.cons (R := fun _ => False)).toGw id) .nil))))), gN.trans (g.trans (g10.trans Gr.cons))⟩
    exact .list (.tail _ hD10) rD10 (hy.gr (Gr.cons (R := fun _ => False)).toGw id)
end
section
theorem nxt_deed {cells : List Int} {S : Hs} {k : Nat} (G : Good S) (hup : S.up.length + 7 ≤ 63) (hr : S.rows.length + 7 ≤ 900) : Nxt S (deed cells S k).1 7 ∧ (deed cells S k).2 ≤ k + 12 := by
  have hlen := G.w.len
  have hkk : (wayOf cells S k).2 ≤ k + 1 := by unfold wayOf; split <;> simp
  have hnn : ¬ (wayOf cells S k).1 < 2 → 0 < S.nodes.length := by
    unfold wayOf
    split
    · intro h; simp at h
    · intro _; exact List.length_pos_iff.mpr ‹_›
  have hk2 := ltree_k cells 2 (wayOf cells S k).2
  unfold deed
  split
  · obtain ⟨hsz, _⟩ := ltree_size cells 2 (wayOf cells S k).2
    obtain ⟨h, _⟩ := nxt_put (ltree cells 2 (wayOf cells S k).2).1 G (ltree_fine cells 2 _) (by omega) (by omega)
    exact ⟨h.mono (by omega), by show (ltree cells 2 (wayOf cells S k).2).2 ≤ _; omega⟩
  · rename_i h2
    have hn0 := hnn h2
    have hb1 := drawn_bound (cells := cells) (k := (wayOf cells S k).2) hn0
    have hb2 := drawn_bound (cells := cells) (k := (wayOf cells S k).2 + 1) hn0
    split
    · refine ⟨(nxt_merge G (by omega) (by omega) ?_ (by omega)).mono (by omega), by show (wayOf cells S k).2 + 3 ≤ _; omega⟩
      unfold mrRsn
      split
      · trivial
      · exact ⟨by omega, by omega⟩
    · split
      · exact ⟨.refl G, by show (wayOf cells S k).2 + 2 ≤ _; omega⟩
      · exact ⟨(nxt_settle G (by omega)).mono (by omega), by show (wayOf cells S k).2 ≤ _; omega⟩
noncomputable def laps (cells : List Int) : Nat → Hs × Nat
  | 0 => ({}, 1)
  | n + 1 => deed cells (laps cells n).1 (laps cells n).2
structure LapOk (cells : List Int) (n : Nat) : Prop where
  good : Good (laps cells n).1
  up : (laps cells n).1.up.length ≤ 7 * n
  rows : (laps cells n).1.rows.length ≤ 7 * n
  pos : (laps cells n).2 ≤ 1 + 12 * n
theorem lap_ok (cells : List Int) : ∀ n, n ≤ 8 → LapOk cells n
  | 0, _ => ⟨good_empty, Nat.le_refl _, Nat.le_refl _, Nat.le_refl _⟩
  | n + 1, h => by
    have ih := lap_ok cells n (by omega)
    have h1 := ih.up
    have h2 := ih.rows
    have h3 := ih.pos
    obtain ⟨hn, hp⟩ := nxt_deed (cells := cells) (k := (laps cells n).2) ih.good (by omega) (by omega)
    have h4 := hn.up2
    have h5 := hn.rows
    exact ⟨hn.good, by show (deed cells (laps cells n).1 (laps cells n).2).1.up.length ≤ _; omega, by show (deed cells (laps cells n).1 (laps cells n).2).1.rows.length ≤ _; omega, by show (deed cells (laps cells n).1 (laps cells n).2).2 ≤ _; omega⟩
theorem lap_pre (cells : List Int) : ∀ {n i : Nat}, n ≤ 8 → i ≤ n → (laps cells i).1.rows <+: (laps cells n).1.rows
  | 0, i, _, h => by obtain rfl : i = 0 := by omega
                     exact List.prefix_refl _
  | n + 1, i, hn, h => by
    by_cases e : i = n + 1
    · subst e; exact List.prefix_refl _
    · have ih := lap_ok cells n (by omega)
      have h1 := ih.up
      have h2 := ih.rows
      obtain ⟨hx, _⟩ := nxt_deed (cells := cells) (k := (laps cells n).2) ih.good (by omega) (by omega)
      exact (lap_pre cells (by omega) (by omega)).trans hx.pre
theorem lap_next (cells : List Int) (n : Nat) : laps cells (n + 1) = deed cells (laps cells n).1 (laps cells n).2 := rfl
noncomputable def pureE : Nat → PyData → Bool
  | _, .int _ => true
  | _, .bool _ => true
  | _, .str x => PyData.strOk x
  | n + 1, .tuple ds => ds.all (pureE n)
  | n + 1, .list ds => ds.all (pureE n)
  | _, _ => false
theorem pureE_self : ∀ (n : Nat) (d : PyData), pureE n d = true → PyData.eqv d d = true ∧ d.canLay0 = true ∧ d.depth ≤ n := by
  have all : ∀ (n : Nat), (∀ d, pureE n d = true → PyData.eqv d d = true ∧ d.canLay0 = true ∧ d.depth ≤ n) → ∀ ds : List PyData, (∀ d ∈ ds, pureE n d = true) → PyData.eqvAll ds ds = true ∧ PyData.canLayAll0 ds = true ∧ PyData.depthAll ds ≤ n := by
    intro n ih ds
    induction ds with
    | nil => intro _; simp [PyData.eqvAll, PyData.canLayAll0, PyData.depthAll]
    | cons d ds hi =>
      intro h
      have h1 := ih d (h d (.head _))
      have h2 := hi fun e he => h e (.tail _ he)
      simp only [PyData.eqvAll, PyData.canLayAll0, PyData.depthAll, h1.1, h1.2.1, h2.1, h2.2.1, Bool.and_self, true_and]
      have a1 := h1.2.2
      have a2 := h2.2.2
      omega
  intro n
  induction n with
  | zero => intro d h; cases d <;> simp_all [pureE, PyData.eqv, PyData.canLay0, PyData.depth]
  | succ n ih =>
    intro d h
    cases d with
    | tuple ds =>
      have q := all n ih ds (by simpa [pureE] using h)
      have q3 := q.2.2
      simp only [PyData.eqv, PyData.canLay0, PyData.depth, q.1, q.2.1, true_and]
      omega
    | list ds =>
      have q := all n ih ds (by simpa [pureE] using h)
      have q3 := q.2.2
      simp only [PyData.eqv, PyData.canLay0, PyData.depth, q.1, q.2.1, true_and]
      omega
    | int i => simp [PyData.eqv, PyData.canLay0, PyData.depth]
    | bool b => simp [PyData.eqv, PyData.canLay0, PyData.depth]
    | str x => simp [pureE] at h; simp [PyData.eqv, PyData.canLay0, PyData.depth, h]
    | _ => simp [pureE] at h
theorem pureE_of : ∀ (n : Nat) (d : PyData), pureD n d = true → pureE n d = true := by
  intro n
  induction n with
  | zero => intro d h; cases d <;> simp_all [pureD, pureE]
  | succ n ih =>
    intro d h
    cases d with
    | tuple ds => simp only [pureD, List.all_eq_true] at h; simp only [pureE, List.all_eq_true]; exact fun x hx => ih x (h x hx)
    | list ds => simp only [pureD, List.all_eq_true] at h; simp only [pureE, List.all_eq_true]; exact fun x hx => ih x (h x hx)
    | _ => simp_all [pureD, pureE]
theorem rows_pureE {rs : List Row} (h : ∀ r ∈ rs, r.good) : pureE 5 (.list (rs.map Row.dat)) = true := by
  rw [pureE, List.all_eq_true]
  intro x hx
  obtain ⟨r, hr, rfl⟩ := List.mem_map.mp hx
  exact pureE_of 4 _ (Row.pure (h r hr))
theorem stD_pure {S : Hs} (h : ∀ r ∈ S.rows, r.good) : pureE 6 (stD S) = true := by
  have h1 : pureE 5 (.list ((List.range S.nodes.length).map fun i => natD (root S.up i))) = true := by
    rw [pureE, List.all_eq_true]
    intro x hx
    obtain ⟨r, _, rfl⟩ := List.mem_map.mp hx
    rfl
  have h2 := rows_pureE h
  unfold stD
  rw [pureE]
  simp only [List.all_cons, List.all_nil, Bool.and_true]
  rw [h1, h2]
  rfl
theorem pureE_shaped {n : Nat} {d : PyData} (h : pureE n d = true) (hn : n ≤ 64) : SeqAt.shaped d = true := by
  obtain ⟨_, a, b⟩ := pureE_self n d h
  unfold SeqAt.shaped
  rw [a, decide_eq_true (Nat.le_trans b hn)]
  rfl
theorem kts_nil {g g' : Heap} (T : KtsTurn [] g g') (b : Addr) (o : Obj) (h : g.get? b = some o) : g'.get? b = some o := T.other b o h (fun h => nomatch h)
theorem fr_nil {g g' h : Heap} {L : Addr} {m : Str → Option Value} (T : KtsTurn [] g g') (F : Fr g' L h m) : Fr g L h m := ⟨F.ns, fun b o e => F.keep b o (kts_nil T b o e), by have := F.above; rw [T.size] at this; exact this⟩
theorem news_nil {g g' h : Heap} {L : Addr} {news : Led} (T : KtsTurn [] g g') (N : News g' L h news) : News g L h news := fun p hp => ⟨(N p hp).1, (N p hp).2.1, by
  cases q : g.get? p.1 with
  | none => rfl
  | some o => have := (N p hp).2.2; rw [kts_nil T _ _ q] at this; cases this⟩
variable {w : World} {mean : ExcName → Option Value} {mg mb : Str → Option Value}
theorem SCtr.use0 {f : Addr} {dd uu : Nat} {args : List Value} {dp un : Nat} {gd : Option (List Code)} {cn : Str} {cs : Scope} {a : Addr} {ccd : Value} {A₀ : Around} {h₀ : Heap} {L : Addr}
    {m : Str → Option Value} {news : Led} {reg : Reg} {s : Shared} {Q E : Value → Shared → Prop} {Pre : Led → Reg → Prop} {Post : Led → Reg → Value → Led → Reg → Prop}
    (C : SCtr w mean mg mb f dd uu args Pre Post) (B : Below A₀ h₀ [] h₀) (F : Fr h₀ L s.heap m) (X : (KK w.params).In h₀) (N : News h₀ L s.heap news) (T : Top VV (looseW VV []) mean mg mb h₀) (hk : cs.kind = .function) (pre : Pre news reg) (hd : dp + dd < recursionLimit) (hu : un + uu < cLine)
    (ret : ∀ r news' reg' h' tk', Fr h₀ L h' m → News h₀ L h' news' → Post news reg r news' reg' → Q r { s with heap := h', toks := tk' }) :
    wpAny (model PySem.Challenge.rw_pq0074_01.row.prog w) (ktrTop dp un gd cn cs L a ccd [] []) (call (.ref f) args) Q E s :=
  C.use B F X N T X T ktsDicts_nil (KtsTurn.refl (g := h₀)) hk pre hd hu fun r news' reg' h₀' h' tk' Tn F' N' _ _ _ _ P => ret r news' reg' h' tk' (fr_nil Tn F') (news_nil Tn N') P
end
section
theorem bslice_N {w : World} {value slice : PySem.Expr} {l : Addr} {vs : List Value} {n : Nat} {u : Tok} {Q : Value → Shared → Prop} {H : Heap} {gn : Array GenState} {dr : Drawn} {tk : Nat} {os : OsState} {A : Around} {E : Value → Shared → Prop} {h₀ : Heap} {L : Addr} {m : Str → Option Value} {news : Led}
    (F : Fr h₀ L H m) (N : News h₀ L H news) (hL : h₀.IsList l vs.toArray) (hz : vs.length ≤ sizeLine)
    (h : ∀ D h', Fr h₀ L h' m → News h₀ L h' ((D, lisO (vs.take n) 0) :: news) → (∀ p ∈ news, p.1 < D) → Q (.ref D) { heap := h', gens := gn, drawn := dr, toks := tk, os := os })
    (hs : subscripted slice false (.ref l) (.ref H.objs.size) = operate [.ref H.objs.size, .ref l] (getItem (.ref l) (.ref H.objs.size)))
    (hg : ∀ r, letTemporaryGo value (.ref l) r = pure ()) :
    wpAny (model PG w) A (subscriptTail value slice (.ref l) (.ref H.objs.size)) Q E { heap := H.push { cls := .type "slice", data := .fields #[.none, .int n u, .none] }, gens := gn, drawn := dr, toks := tk, os := os } := by
  have hL' : H.IsList l vs.toArray := by
    obtain ⟨o, ho, r⟩ := hL
    exact ⟨o, F.keep _ _ ho, r⟩
  refine kmk_slice (s := ⟨H, gn, dr, tk, os⟩) F N (its := vs.toArray) (lo := none) (hi := some (n : Int)) hL' ?_ ?_ (fun D h' F' N' l' => h D h' F' ?_ l') hs hg (by simpa using hz)
  · constructor
  · constructor
  · rw [pick_upto] at N'; exact N'
theorem ints_take : ∀ {vs : List Value} {ns : List Int} (k : Nat), IntsAre vs ns → IntsAre (vs.take k) (ns.take k)
  | _, _, k, .nil => by simp; exact .nil
  | _, _, 0, .cons _ _ _ => .nil
  | _, _, k + 1, .cons n t r => .cons n t (ints_take k r)
theorem feed_new {w : World} {h₀ h : Heap} {L d D1 D2 : Addr} {o o1 o3 : Obj} {vs : List Value} {c2 : Nat} {t : Tok} {cells : List Int} (N : News h₀ L h ((d, o3) :: others ((D2, lisO vs c2) :: (D1, o1) :: (d, o) :: []) d)) (hd3 : o3.IsDictOf (strKind PG w) (fkvs (.ref D2) (.int 0 t)))
    (hne : D2 ≠ d) (hI : IntsAre vs (cells.take 48)) : ∃ cells G reg, cells.length ≤ 48 ∧ News h₀ L h G ∧ FeedR w G reg d cells 0 :=
  ⟨cells.take 48, _, fun a => if a = d then 6 else 2, by simp; omega, N, o3, t, D2, vs, c2, .head _, if_pos rfl, hd3, .tail _ (mem_others (.head _) hne), if_neg hne, hI⟩
variable {w : World} {mean : ExcName → Option Value} {mg mb : Str → Option Value}
theorem mir_new {h₀ h : Heap} {L D ln lr : Addr} {o : Obj} {news : Led} (reg : Reg) (N : News h₀ L h ((D, o) :: (lr, lisO [] 0) :: (ln, lisO [] 0) :: news)) (hlow : ∀ p ∈ news, p.1 < ln) (hlt : ln < lr ∧ AllLt lr news) :
    ∃ G reg', News h₀ L h G ∧ Gr (fun _ => False) reg news reg' G ∧ Mir G reg' ln lr ([], []) := by
  have e : ∀ p ∈ news, (if p.1 = ln then 7 else if p.1 = lr then 8 else reg p.1) = reg p.1 := fun p hp => by
    have h1 := hlow p hp
    rw [if_neg (Nat.ne_of_lt h1), if_neg (Nat.ne_of_lt (Nat.lt_trans h1 hlt.1))]
  exact ⟨_, fun a => if a = ln then 7 else if a = lr then 8 else reg a, N, ⟨⟨fun p hp _ => .tail _ (.tail _ (.tail _ hp)), fun p hp _ => .tail _ (.tail _ (.tail _ hp)), fun p hp _ => e p hp⟩, e, fun p hp => ⟨p.2, .tail _ (.tail _ (.tail _ hp))⟩⟩,
    ⟨⟨[], 0, .tail _ (.tail _ (.head _)), if_pos rfl, .nil⟩, ⟨[], 0, .tail _ (.head _), by show (if lr = ln then 7 else if lr = lr then 8 else reg lr) = 8; rw [if_neg (Nat.ne_of_gt hlt.1), if_pos rfl], .nil⟩⟩⟩
structure LawJ (w : World) (news : Led) (reg : Reg) (f st ln lr ls : Addr) (cells : List Int) (i : Nat) : Prop where
  feed : FeedR w news reg f cells (laps cells i).2
  story : StyR w news reg 4 15 st (laps cells i).1
  mir : Mir news reg ln lr ((laps cells i).1.nodes, (laps cells i).1.rows)
  states : DatL news reg 9 ls ((List.range (i + 1)).map fun j => stD (laps cells j).1)
theorem LawJ.gr {w R reg news reg' news' f st ln lr ls cells i} (h : LawJ w news reg f st ln lr ls cells i) (g : Gw R reg news reg' news') (n1 : ¬ R 1) (n2 : ¬ R 2) (n4 : ¬ R 4) (n6 : ¬ R 6) (n7 : ¬ R 7) (n8 : ¬ R 8) (n9 : ¬ R 9) (n15 : Off R 15 allH) : LawJ w news' reg' f st ln lr ls cells i :=
  ⟨h.feed.gr g n6 n2, h.story.gr g n4 n1 n2 n15, h.mir.gr g n2 n7 n8, h.states.gr g n2 n9⟩
noncomputable def DueEnd (due : Int) (h : Heap) (s : Shared) (v : Value) (s' : Shared) : Prop := ∃ tk t, v = .int due t ∧ s' = { s with heap := h, toks := tk }
theorem off_lo {k o : Nat} {l : List Nat} (ho : 15 ≤ o) (hk : Nat.ble k 14 = true) : Off (fun j => j = k) o l := off_q ho hk
theorem def_elim {d d' : DefRec} {kwd kwd' : List (Str × PySem.Expr)} {P : DefRec → Prop} (hd : defOf VV (Str.ofString "law") = some (d, kwd)) (e : defOf VV (Str.ofString "law") = some (d', kwd')) (h : P d') : P d := by
  rw [hd] at e
  cases e
  exact h
theorem law_body {d : DefRec} {kwd : List (Str × PySem.Expr)} {h₀ : Heap} {L a sc : Addr} {cd : Value} {s : Shared} {Q : Flow → Shared → Prop} {E : Value → Shared → Prop} {vs : List Value} {ns : List Int} (hd : defOf VV (Str.ofString "law") = some (d, kwd))
    (B : Below callerA h₀ [] h₀) (F : Fr h₀ L s.heap (fun x => List.lookup x [(Str.ofString "script", Value.ref sc)])) (X : (KK w.params).In h₀) (N : News h₀ L s.heap []) (T : Top VV (looseW VV []) mean mg mb h₀) (hL : h₀.IsList sc vs.toArray) (hI : IntsAre vs ns) (hle : ns.length ≤ 63)
    (hE : PassesOwn (model PG w) (callerA.deeper (envOf d.name d.scope L a cd)) (envOf d.name d.scope L a cd) E)
    (hret : ∀ h' tk' m' news', Fr h₀ L h' m' → News h₀ L h' news' → Q (.ret (.bool true)) { s with heap := h', toks := tk' }) :
    wpAny (model PySem.Challenge.rw_pq0074_01.row.prog w) (callerA.deeper (envOf d.name d.scope L a cd)) (execs d.body (envOf d.name d.scope L a cd)) Q E s := by
  have z9 : PySem.Challenge.rw_pq0074_01 = PySem.Challenge.rw_pq0074_01 ∧ KK = KK := by
    k_fill
    exact ⟨rfl, rfl⟩
  clear z9
  revert hE
  refine def_elim (P := fun d => PassesOwn (model PG w) (callerA.deeper (envOf d.name d.scope L a cd)) (envOf d.name d.scope L a cd) E → wpAny (model PySem.Challenge.rw_pq0074_01.row.prog w) (callerA.deeper (envOf d.name d.scope L a cd)) (execs d.body (envOf d.name d.scope L a cd)) Q E s) hd (by rfl) ?_
  intro hE
  clear hd
  have hlen := hI.length
  try dsimp only
  repeat' (first | ((try k_unmd); k_unfold; (try dsimp only)) | ((try dsimp only); (fail_if_success (with_reducible show wpAny _ _ (subscriptTail _ _ _ _) _ _ _)); walk1) | (leave1; try dsimp only))
  refine' bslice_N (n := 48) ?F ?N hL ?hz ?_ ?hs ?hg
  (case F => k_asm); (case N => k_asm); (case hz => rw [sizeLine_eq]; omega); (case hs => with_unfolding_all rfl); (case hg => intro _; with_unfolding_all rfl)
  rename_i fd hx1 ox1 Fx1 Nx1 lx1 lox1 hdx1
  intro D1 h1 F1 N1 l1
  walk_at "S"
  refine list_copyK (by k_asm) (by k_asm) ⟨_, News.get (by k_asm) (.head _), rfl, 0, rfl⟩ (fun D2 c2 h2 F2 N2 l2 => ?_) (by rw [sizeLine_eq]; simp; omega)
  walk_at "S"
  rename Obj.IsDictOf _ _ _ => hd1
  rename News _ _ _ _ => N3
  k_dflt (refine' kdn_made_str ?F (led_split N3 (.tail _ (.tail _ (.head _)))) led_updF hd1 ?kk9 ?nn9 ?_; (case F => k_asm); (case kk9 => rfl); (case nn9 => exact of_decide_eq_true (by first | rfl | kernel_rfl)))
  intro h3 o3 F3 N4 hd3
  refine bc fun z9 => ?_
  refine ex3 (feed_new N4 hd3 (Nat.ne_of_gt (l2 _ (.tail _ (.head _)))) (ints_take 48 hI)) fun cells G4 reg4 h9 => ?_; refine el3 h9 fun hc NG4 hf => ?_; clear h9
  refine z9 ?_; clear z9; try k_unmd
  clear N4 N3 hd1 l2 hd3
  walk_at "S"
  try k_fold
  k_dflt (refine' Ctr.use (reg := reg4) (story_new 4 15 (by decide) rfl (by rfl)) ?B ?F ?X ?N ?T ?k ?pre ?d ?u ?_)
  (case B | F | X | N | T => k_asm); (case k => first | exact rfl | assumption); (case d | u => walk_at "ROOM")
  (case pre => trivial)
  intro r5 news5 reg5 h5 tk5 F5 N5 hp9; refine bc fun z9 => ?_
  refine ex1 hp9 fun st h9 => ?_; refine el3 h9 fun hq1 hS g5 => ?_; clear h9; try clear hp9
  obtain rfl := hq1
  refine z9 ?_; clear z9; try k_unmd
  try k_sweep
  try dsimp only
  try k_fold
  replace hf := hf.gr g5.toGw id id
  walk_at "S"
  rename_i ln hx2 hlow2 lr hx3 hlt3 D6 hx4 lx4 hx5 hx6 m91 hx7 m92 hx8 m93 hx9 F6 N6
  refine bc fun z9 => ?_
  refine ex2 (mir_new reg5 N6 hlow2 hlt3) fun G6 reg6 h9 => ?_; refine el3 h9 fun NG6 g6 hM => ?_; clear h9
  refine z9 ?_; clear z9; try k_unmd
  clear N6
  replace hf := hf.gr g6.toGw id id
  replace hS := hS.gr g6.toGw id id id off_no
  try k_fold
  k_dflt (refine' Ctr.use (reg := reg6) (law_state 4 15 (by decide) rfl st {} whs_empty) ?B ?F ?X ?N ?T ?k ?pre ?d ?u ?_)
  (case B | F | X | N | T => k_asm); (case k => first | exact rfl | assumption); (case d | u => walk_at "ROOM")
  (case pre => exact ⟨hS, by simp⟩)
  intro r7 news7 reg7 h7 tk7 F7 N7 hp9; refine bc fun z9 => ?_; obtain ⟨hd7, g7⟩ := hp9; refine z9 ?_; clear z9; try k_unmd
  try k_sweep
  try dsimp only
  try k_fold
  replace hf := hf.gr g7.toGw id id
  replace hS := hS.gr g7.toGw id id id off_no
  replace hM := hM.gr g7.toGw id id id
  walk_at "S"
  rename_i ls hx10 l8 hx11 F8 N8 zz1 zz2
  refine bc fun z9 => ?_
  obtain ⟨reg8, g8, r8⟩ := Gr.fresh (R := fun _ => False) (reg := reg7) (k := 9) (o := lisO [r7] 0) l8
  refine z9 ?_; clear z9; try k_unmd
  replace hf := hf.gr g8.toGw id id
  replace hS := hS.gr g8.toGw id id id off_no
  replace hM := hM.gr g8.toGw id id id
  have hT : DatL _ reg8 9 _ ((List.range 1).map fun j => stD (laps cells j).1) := ⟨[r7], 0, .head _, r8, .cons (hd7.gr g8.toGw id) .nil⟩
  try k_fold
  k_dflt (refine' Ctr.use (reg := reg8) (draw _ cells 0 6 _ (by decide) hc (by omega) (by decide)) ?B ?F ?X ?N ?T ?k ?pre ?d ?u ?_)
  (case B | F | X | N | T => k_asm); (case k => first | exact rfl | assumption); (case d | u => walk_at "ROOM")
  (case pre => exact hf)
  intro r9 news9 reg9 h9 tk9 F9 N9 hp9; refine bc fun z9 => ?_
  refine el3 hp9 fun hq2 hf9 g9 => ?_; try clear hp9
  obtain ⟨t9, rfl⟩ := hq2
  refine z9 ?_; clear z9; try k_unmd
  try k_sweep
  try dsimp only
  try k_fold
  have hJ9 : LawJ w news9 reg9 fd st ln lr ls cells 0 := ⟨hf9, hS.gr g9.toGw (by decide) (by decide) (by decide) (off_q (by decide) (by rfl)), hM.gr g9.toGw (by decide) (by decide) (by decide), hT.gr g9.toGw (by decide) (by decide)⟩
  have hb9 := drawn_bound (cells := cells) (k := 0) (wide := 6) (by decide)
  refine bc fun z9 => ?_
  obtain ⟨n, hn⟩ : ∃ n, n = 3 + drawn cells 0 6 := ⟨_, rfl⟩
  refine z9 ?_; clear z9; try k_unmd
  have hn8 : n ≤ 8 := by omega
  clear hT hM hS hf g8 g7 g6 g5 hd7 hf9 g9
  walk_at "S"
  refine range1_rows (by k_asm) (by k_asm) fun h10 tk10 t10 u10 v10 hr10 F10 N10 hk10 => ?_
  rw [show (3 + ((drawn cells 0 6 : Nat) : Int)) = (n : Int) by omega] at hr10
  walk_at "S"
  refine' iter_range_x (n := n) (reg := reg9) (fun i news₂ reg₂ => LawJ w news₂ reg₂ fd st ln lr ls cells i) ?hh hr10 ?hn ?F ?N ?J ?hx ?hp ?mono ?turn ?done ?hE
  (case hh => rfl); (case hn => omega); (case F => k_asm); (case N => k_asm); (case hx => rfl); (case hp => rfl)
  (case J => exact hJ9.gr (Gr.sub (R := fun _ => False) (by intro p hp; repeat (first | exact hp | refine List.mem_cons_of_mem _ ?_))).toGw id id id id id id id off_no)
  (case mono => exact fun b i news₁ reg₁ news' reg' hb h gw l => h.gr gw (by decide) (by decide) (by decide) (by decide) (by decide) (by decide) (by decide) (off_q (by decide) (by rfl)))
  (case hE => exact hE)
  case turn =>
    intro i t11 news₂ reg₂ h tk hi hJ F11 N11
    refine' (let mm : Str → Option Value := _; (fun (F11 : Fr _ _ _ mm) => ?_) F11); try k_unmd
    have ok := lap_ok cells i (by omega)
    have ok1 := lap_ok cells (i + 1) (by omega)
    have u1 := ok.up
    have u2 := ok.rows
    have u3 := ok.pos
    have u4 := ok1.rows
    walk_at "S"
    k_dflt (refine' SCtr.use0 (reg := reg₂) (law_done 4 15 (by decide) rfl rfl fd st ln lr cells (laps cells i).2 (laps cells i).1 ok.good) ?B ?F ?X ?N ?T ?k ?pre ?d ?u ?_)
    (case B | F | X | N | T => k_asm); (case k => first | exact rfl | assumption); (case d | u => walk_at "ROOM")
    (case pre => exact ⟨hJ.feed, hJ.story, hJ.mir, by omega, by omega, hc, by omega⟩)
    intro r12 news12 reg12 h12 tk12 F12 N12 hp9; refine bc fun z9 => ?_
    refine el5 hp9 fun hq3 hf12 hS12 hM12 g12 => ?_; try clear hp9
    obtain rfl := hq3
    refine z9 ?_; clear z9; try k_unmd
    try k_sweep
    try dsimp only
    try k_fold
    rw [← lap_next] at hf12 hS12 hM12
    have hT12 := hJ.states.gr g12.toGw (dr_no (by decide) rfl rfl) (dr_no (by decide) rfl rfl)
    clear hJ
    refine bc fun z9 => ?_
    refine ex3 (id hS12) fun sd x tk0 z => ?_
    refine z9 ?_; clear z9; try k_unmd
    have s1 := z.inst
    have s2 := z.dict
    clear z
    walk_at "S"
    try k_fold
    k_dflt (refine' Ctr.use (reg := reg12) (story_rows 4 15 (by decide) st (laps cells (i + 1)).1) ?B ?F ?X ?N ?T ?k ?pre ?d ?u ?_)
    (case B | F | X | N | T => k_asm); (case k => first | exact rfl | assumption); (case d | u => walk_at "ROOM")
    (case pre => exact ⟨hS12, by omega⟩)
    intro r13 news13 reg13 h13 tk13 F13 N13 hp9; refine bc fun z9 => ?_
    refine ex1 hp9 fun l13 h9 => ?_; refine el3 h9 fun hq4 hl13 g13 => ?_; clear h9; try clear hp9
    obtain rfl := hq4
    refine z9 ?_; clear z9; try k_unmd
    try k_sweep
    try dsimp only
    try k_fold
    replace hf12 := hf12.gr g13.toGw id id
    replace hS12 := hS12.gr g13.toGw id id id off_no
    replace hM12 := hM12.gr g13.toGw id id id
    replace hT12 := hT12.gr g13.toGw id id
    refine bc fun z9 => ?_
    refine ex2 hM12.rows fun vr cr h9 => ?_; refine el3 h9 fun q1 q2 q3 => ?_; clear h9
    refine z9 ?_; clear z9; try k_unmd
    have hpure := rows_pureE (rs := (laps cells (i + 1)).1.rows) fun r hr => (ok1.good.ops r hr).good
    have g123 := g12.trans g13.no
    clear s1 s2 g13 g12
    walk_at "S"
    refine neR (DT.reads (by k_asm) hl13) (lis_reads (reg := reg13) (by k_asm) q1 q3) (pureE_shaped hpure (by decide)) (pureE_shaped hpure (by decide)) (by walk_at "ROOM") ?_
    rw [(pureE_self 5 _ hpure).1]
    refine bc fun z9 => ?_
    refine ex2 hT12 fun vt ct h9 => ?_; refine el3 h9 fun e1 e2 e3 => ?_; clear h9; try clear hT12
    refine z9 ?_; clear z9; try k_unmd
    have hvt : vt.length = i + 1 := by have := e3.length; simpa using this
    walk_at "S"
    try k_fold
    k_dflt (refine' Ctr.use (reg := reg13) (law_state 4 15 (by decide) rfl st (laps cells (i + 1)).1 ok1.good.w) ?B ?F ?X ?N ?T ?k ?pre ?d ?u ?_)
    (case B | F | X | N | T => k_asm); (case k => first | exact rfl | assumption); (case d | u => walk_at "ROOM")
    (case pre => exact ⟨hS12, by omega⟩)
    intro r14 news14 reg14 h14 tk14 F14 N14 hp9; refine bc fun z9 => ?_; obtain ⟨hd14, g14⟩ := hp9; refine z9 ?_; clear z9; try k_unmd
    try k_sweep
    try dsimp only
    try k_fold
    replace hf12 := hf12.gr g14.toGw id id
    replace hS12 := hS12.gr g14.toGw id id id off_no
    replace hM12 := hM12.gr g14.toGw id id id
    replace e3 := e3.gr g14.toGw id
    replace e2 := (g14.regs _ e1).trans e2
    replace e1 := g14.keep _ e1 id
    replace g123 := g123.trans g14.no
    walk_at "S"
    refine append_N (r := 9) (reg := reg14) (by k_asm) (by k_asm) e1 e2 (by rw [sizeLine_eq]; omega) fun h15 news15 F15 N15 g15 m15 => ?_
    k_sweep
    walk_at "S"
    refine TurnEnd.mk (news₂ := news15) (reg₂ := reg14) (fun k => DR 15 k ∨ k = 9) (by k_asm) (by k_asm) (by exact (fun h => h.elim (dr_no (by decide) rfl rfl) (by decide))) (by exact (g123.mono fun _ e => .inl e).trans (g15.toGr.mono fun _ e => .inr e)) ⟨⟨_, rfl⟩, ?_⟩
    · refine ⟨hf12.gr g15.toGr.toGw (by decide) (by decide), hS12.gr g15.toGr.toGw (by decide) (by decide) (by decide) (off_q (by decide) (by rfl)), hM12.gr g15.toGr.toGw (by decide) (by decide) (by decide), ⟨_, _, m15, e2, ?_⟩⟩
      rw [List.range_succ, List.map_append]
      exact (e3.append (.cons hd14 .nil)).gr g15.toGr.toGw (by decide)
  case done =>
    rintro kv news₂ reg₂ h tk hJ F12 N12
    refine' (let mm : Str → Option Value := _; (fun (F12 : Fr _ _ _ mm) => ?_) F12); try k_unmd
    have ok := lap_ok cells n hn8
    have u1 := ok.up
    have u2 := ok.rows
    have u3 := ok.pos
    refine bc fun z9 => ?_
    obtain ⟨S, hS⟩ : ∃ S, S = (laps cells n).1 := ⟨_, rfl⟩
    refine z9 ?_; clear z9; try k_unmd
    have G := ok.good
    have hst := hJ.story
    have hmr := hJ.mir
    rw [← hS] at G u1 u2 hst hmr
    have hpure := rows_pureE (rs := S.rows) fun r hr => (G.ops r hr).good
    have hgood : ∀ r ∈ S.rows, r.good := fun r hr => (G.ops r hr).good
    have hspure := stD_pure hgood
    walk_at "S"
    try k_fold
    k_dflt (refine' Ctr.use (reg := reg₂) (story_new 5 31 (by decide) rfl (by rfl)) ?B ?F ?X ?N ?T ?k ?pre ?d ?u ?_)
    (case B | F | X | N | T => k_asm); (case k => first | exact rfl | assumption); (case d | u => walk_at "ROOM")
    (case pre => trivial)
    intro r13 news13 reg13 h13 tk13 F13 N13 hp9; refine bc fun z9 => ?_
    refine ex1 hp9 fun ot h9 => ?_; refine el3 h9 fun hq5 ho13 g13 => ?_; clear h9; try clear hp9
    obtain rfl := hq5
    refine z9 ?_; clear z9; try k_unmd
    try k_sweep
    try dsimp only
    try k_fold
    replace hJ := hJ.gr g13.toGw id id id id id id id off_no
    replace hst := hst.gr g13.toGw id id id off_no
    replace hmr := hmr.gr g13.toGw id id id
    clear g13
    refine bc fun z9 => ?_
    refine ex2 hmr.rows fun vr cr h9 => ?_; refine el3 h9 fun q1 q2 q3 => ?_; clear h9
    refine z9 ?_; clear z9; try k_unmd
    have hvr : vr.length = S.rows.length := by have := q3.length; simpa using this
    walk_at "S"
    refine' iter_list_x (vs := vr) (c := cr) (reg := reg13) (fun i news₂ reg₂ => LawJ w news₂ reg₂ fd st ln lr ls cells n ∧ StyR w news₂ reg₂ 5 31 ot (acts {} (S.rows.take i)) ∧ (lr, lisO vr cr) ∈ news₂ ∧ reg₂ lr = 8 ∧ DTs news₂ reg₂ vr (S.rows.map Row.dat)) ?hh ?F ?N ?J ?hx ?hp ?hat ?mono ?turn ?done ?hE
    (case hh => rfl); (case F => k_asm); (case N => k_asm); (case hx => rfl); (case hp => rfl)
    (case J => exact ⟨hJ, ho13, q1, q2, q3⟩)
    (case hat => exact fun i news reg h => h.2.2.1)
    (case mono => exact fun b i news₁ reg₁ news' reg' hb h gw l => ⟨h.1.gr gw (by decide) (by decide) (by decide) (by decide) (by decide) (by decide) (by decide) (off_q (by decide) (by rfl)), h.2.1.gr gw (by decide) (by decide) (by decide) (off_q (by decide) (by rfl)), gw.at h.2.2.1 h.2.2.2.1 (by decide), gw.regw h.2.2.1 h.2.2.2.1 (by decide), h.2.2.2.2.gr gw (by decide)⟩)
    (case hE => exact hE)
    case turn =>
      intro i v news₂ reg₂ h tk hv hp9 F8 N8
      refine bc fun z9 => ?_
      refine el5 hp9 fun j1 j2 j3 j4 j5 => ?_; try clear hp9
      refine z9 ?_; clear z9; try k_unmd
      refine' (let mm : Str → Option Value := _; (fun (F8 : Fr _ _ _ mm) => ?_) F8); try k_unmd
      have hi : i < S.rows.length := by
        have := (List.getElem?_eq_some_iff.mp hv).1
        omega
      obtain ⟨v', e1, e2⟩ := j5.get (k := i) (d := ((S.rows)[i]).dat) (by rw [List.getElem?_map]; exact congrArg (Option.map Row.dat) (List.getElem?_eq_getElem hi))
      rw [hv] at e1
      refine bc fun z9 => ?_
      cases e1
      obtain ⟨ra, rfl⟩ := Row.dat_ref e2
      refine el3 (G.fits.at hi) fun f1 f2 f3 => ?_
      refine ex3 (id j2) fun sd8 x8 tk8 y8 => ?_
      refine z9 ?_; clear z9; try k_unmd
      have k1 := y8.inst
      have k2 := y8.dict
      clear y8
      walk_at "S"
      try k_fold
      k_dflt (refine' Ctr.use (reg := reg₂) (story_do 5 31 (by decide) rfl ot (acts {} (S.rows.take i)) (S.rows[i]) ra f2) ?B ?F ?X ?N ?T ?k ?pre ?d ?u ?_)
      (case B | F | X | N | T => k_asm); (case k => first | exact rfl | assumption); (case d | u => walk_at "ROOM")
      (case pre => exact ⟨j2, e2, f1, f3⟩)
      intro r9 news9 reg9 h9 tk9 F9 N9 hp9; refine bc fun z9 => ?_
      refine el3 hp9 fun hq6 z9 g9 => ?_; try clear hp9
      obtain rfl := hq6
      refine z9 ?_; clear z9; try k_unmd
      try k_sweep
      try dsimp only
      try k_fold
      walk_at "S"
      refine TurnEnd.mk (news₂ := news9) (reg₂ := reg9) (RS 31 allH) (by k_asm) (by k_asm) (rs_big (by decide) rfl) (g9) ⟨⟨_, rfl⟩, j1.gr g9.toGw (rs_big (by decide) rfl) (rs_big (by decide) rfl) (rs_big (by decide) rfl) (rs_big (by decide) rfl) (rs_big (by decide) rfl) (rs_big (by decide) rfl) (rs_big (by decide) rfl) (off_far rfl rfl (.inl (by decide))), ?_, g9.at j3 j4 (rs_big (by decide) rfl), g9.regw j3 j4 (rs_big (by decide) rfl), j5.gr g9.toGw (rs_big (by decide) rfl)⟩
      rw [acts_next hi]
      exact z9
    case done =>
      intro kv2 news₂ reg₂ h tk hp9 F8 N8
      refine bc fun z9 => ?_
      refine el5 hp9 fun hJ ho14 j3 j4 j5 => ?_; try clear hp9
      refine z9 ?_; clear z9; try k_unmd
      refine' (let mm : Str → Option Value := _; (fun (F8 : Fr _ _ _ mm) => ?_) F8); try k_unmd
      rw [hvr, List.take_length, G.told] at ho14
      walk_at "S"
      try k_fold
      k_dflt (refine' Ctr.use (reg := reg₂) (law_state 5 31 (by decide) rfl ot S G.w) ?B ?F ?X ?N ?T ?k ?pre ?d ?u ?_)
      (case B | F | X | N | T => k_asm); (case k => first | exact rfl | assumption); (case d | u => walk_at "ROOM")
      (case pre => exact ⟨ho14, by omega⟩)
      intro r15 news15 reg15 h15 tk15 F15 N15 hp9; refine bc fun z9 => ?_; obtain ⟨hd15, g15⟩ := hp9; refine z9 ?_; clear z9; try k_unmd
      try k_sweep
      try dsimp only
      try k_fold
      replace hJ := hJ.gr g15.toGw id id id id id id id off_no
      replace ho14 := ho14.gr g15.toGw id id id off_no
      replace j5 := j5.gr g15.toGw id
      replace j4 := (g15.regs _ j3).trans j4
      replace j3 := g15.keep _ j3 id
      clear g15
      repeat' (first | ((try k_unmd); k_unfold; (try dsimp only)) | ((try dsimp only); (fail_if_success (with_reducible show wpAny _ _ (subscriptTail _ _ _ _) _ _ _)); walk1) | (leave1; try dsimp only))
      refine bc fun z9 => ?_
      refine ex2 hJ.states fun vt ct h9 => ?_; refine el3 h9 fun e1 e2 e3 => ?_; clear h9
      refine z9 ?_; clear z9; try k_unmd
      have hvt : vt.length = n + 1 := by have := e3.length; simpa using this
      obtain ⟨vn, w1, w2⟩ := e3.get (k := n) (d := stD S) (by rw [hS]; simp)
      refine kim_back (l := vt) (x := vn) (by k_asm) e1 rfl rfl (by decide) (by rw [hvt]; omega) (by decide) (by rw [hvt, show (-1 + ((n + 1 : Nat) : Int)).toNat = n by omega]; exact w1) ?_
      walk_at "S"
      refine neR (DT.reads (by k_asm) hd15) (DT.reads (by k_asm) w2) (pureE_shaped hspure (by decide)) (pureE_shaped hspure (by decide)) (by walk_at "ROOM") ?_
      rw [(pureE_self 6 _ hspure).1]
      refine bc fun z9 => ?_
      refine ex3 (id ho14) fun x1 x2 x3 x4 => ?_
      refine z9 ?_; clear z9; try k_unmd
      have s1 := x4.inst
      have s2 := x4.dict
      clear x4
      refine bc fun z9 => ?_
      refine ex3 (id hJ.story) fun x5 x6 x7 x8 => ?_
      refine z9 ?_; clear z9; try k_unmd
      have s3 := x8.inst
      have s4 := x8.dict
      clear x8
      walk_at "S"
      replace hst := hJ.story
      rw [← hS] at hst
      try k_fold
      k_dflt (refine' Ctr.use (reg := reg15) (story_alike 5 31 4 15 (by decide) (by decide) ot st S S) ?B ?F ?X ?N ?T ?k ?pre ?d ?u ?_)
      (case B | F | X | N | T => k_asm); (case k => first | exact rfl | assumption); (case d | u => walk_at "ROOM")
      (case pre => exact ⟨ho14, hst, by omega, by omega, hgood, hgood⟩)
      intro r16 news16 reg16 h16 tk16 F16 N16 hp9; refine bc fun z9 => ?_; obtain ⟨⟨t16, rr16⟩, g16⟩ := hp9; refine z9 ?_; clear z9; try k_unmd
      try k_sweep
      try dsimp only
      try k_fold
      rw [alike_self] at rr16
      subst rr16
      replace hJ := hJ.gr g16.toGw id id id id id id id off_no
      replace ho14 := ho14.gr g16.toGw id id id off_no
      replace hst := hst.gr g16.toGw id id id off_no
      replace j5 := j5.gr g16.toGw id
      replace j4 := (g16.regs _ j3).trans j4
      replace j3 := g16.keep _ j3 id
      replace s1 := g16.inst s1
      replace s2 := g16.keep _ s2 id
      replace s3 := g16.inst s3
      replace s4 := g16.keep _ s4 id
      clear g16
      clear e1 e2 e3 w1 w2 hvt vn
      walk_at "S"
      try k_fold
      k_dflt (refine' Ctr.use (reg := reg16) (story_alike 4 15 5 31 (by decide) (by decide) st ot S S) ?B ?F ?X ?N ?T ?k ?pre ?d ?u ?_)
      (case B | F | X | N | T => k_asm); (case k => first | exact rfl | assumption); (case d | u => walk_at "ROOM")
      (case pre => exact ⟨hst, ho14, by omega, by omega, hgood, hgood⟩)
      intro r17 news17 reg17 h17 tk17 F17 N17 hp9; refine bc fun z9 => ?_; obtain ⟨⟨t17, rr17⟩, g17⟩ := hp9; refine z9 ?_; clear z9; try k_unmd
      try k_sweep
      try dsimp only
      try k_fold
      rw [alike_self] at rr17
      subst rr17
      replace hJ := hJ.gr g17.toGw id id id id id id id off_no
      replace ho14 := ho14.gr g17.toGw id id id off_no
      replace hst := hst.gr g17.toGw id id id off_no
      replace j5 := j5.gr g17.toGw id
      replace j4 := (g17.regs _ j3).trans j4
      replace j3 := g17.keep _ j3 id
      clear g17 s1 s2 s3 s4
      walk_at "S"
      have hf := hJ.feed
      refine bc fun z9 => ?_
      refine ex2 hJ.states fun vt ct h9 => ?_; refine el3 h9 fun e1 e2 e3 => ?_; clear h9
      refine z9 ?_; clear z9; try k_unmd
      have hvt : vt.length = n + 1 := by have := e3.length; simpa using this
      clear hJ hmr
      refine llen_N (by k_asm) e1 hvt (by omega) fun t18 tk18 => ?_
      walk_at "S"
      try k_fold
      k_dflt (refine' Ctr.use (reg := reg17) (draw fd cells (laps cells n).2 (n + 1) t18 (by omega) hc (by omega) (by omega)) ?B ?F ?X ?N ?T ?k ?pre ?d ?u ?_)
      (case B | F | X | N | T => k_asm); (case k => first | exact rfl | assumption); (case d | u => walk_at "ROOM")
      (case pre => exact hf)
      rintro r18 news18 reg18 h18 tk18' F18 N18 ⟨⟨t19, rfl⟩, hf18, g18⟩
      try k_sweep
      try dsimp only
      try k_fold
      clear hf hf18
      walk_at "S"
      have hdb := drawn_bound (cells := cells) (k := (laps cells n).2) (wide := n + 1) (by omega)
      generalize drawn cells (laps cells n).2 (n + 1) = i at hdb
      replace hst := hst.gr g18.toGw (by decide) (by decide) (by decide) (off_q (by decide) (by rfl))
      replace ho14 := ho14.gr g18.toGw (by decide) (by decide) (by decide) (off_q (by decide) (by rfl))
      replace j5 := j5.gr g18.toGw (by decide)
      replace j4 := And.intro (g18.toGw.at j3 j4 (by decide)) (g18.toGw.regw j3 j4 (by decide))
      replace e2 := And.intro (g18.toGw.at e1 e2 (by decide)) (g18.toGw.regw e1 e2 (by decide))
      replace e3 := e3.gr g18.toGw (by decide)
      clear e1 j3 g18
      refine bc fun z9 => ?_
      obtain ⟨j3, j4⟩ := j4
      obtain ⟨e1, e2⟩ := e2
      refine z9 ?_; clear z9; try k_unmd
      obtain ⟨vi, w1, w2⟩ := e3.get (k := i) (d := stD (laps cells i).1) (by rw [List.getElem?_map, List.getElem?_range hdb]; rfl)
      have oki := lap_ok cells i (by omega)
      have v1 := oki.rows
      refine bc fun z9 => ?_
      obtain ⟨Ti, hTi⟩ : ∃ T, T = (laps cells i).1 := ⟨_, rfl⟩
      refine z9 ?_; clear z9; try k_unmd
      have GT := oki.good
      have hpf := lap_pre cells hn8 (Nat.le_of_lt_succ hdb)
      rw [← hTi] at GT v1 hpf w2
      rw [← hS] at hpf
      refine bc fun z9 => ?_
      refine el3 (back_told GT G hpf) fun bt1 bt2 bt3 => ?_
      refine z9 ?_; clear z9; try k_unmd
      refine item_at (by k_asm) e1 w1 (by omega) ?_
      walk_at "S"
      refine bc fun z9 => ?_
      cases id w2 with | @tuple ti vs5 c5 _ m5 q5 => ?_
      obtain ⟨v4, w3, w4⟩ := q5.get (k := 4) rfl
      cases w4 with | @list li vsi ci _ mi ri qi => ?_
      refine z9 ?_; clear z9; try k_unmd
      have hvi : vsi.length = Ti.rows.length := by have := qi.length; simpa using this
      refine kim_tup (j := 4) (by k_asm) m5 rfl rfl (by decide) (by decide) (by have := q5.length; simp at this; rw [this]; rfl) w3 ?_
      walk_at "S"
      refine llen_N (by k_asm) mi hvi (by omega) fun t20 tk20 => ?_
      refine bc fun z9 => ?_
      refine ex3 (id hst) fun x1 x2 x3 x4 => ?_
      refine z9 ?_; clear z9; try k_unmd
      have s1 := x4.inst
      have s2 := x4.dict
      clear x4
      walk_at "S"
      try k_fold
      k_dflt (refine' Ctr.use (reg := reg18) (story_back 4 15 47 (by decide) (by decide) (by rfl) (by decide) (by decide) (by decide) st S (Ti.rows.length : Int) t20 bt3) ?B ?F ?X ?N ?T ?k ?pre ?d ?u ?_)
      (case B | F | X | N | T => k_asm); (case k => first | exact rfl | assumption); (case d | u => walk_at "ROOM")
      (case pre => exact ⟨hst, by omega⟩)
      intro r21 news21 reg21 h21 tk21 F21 N21 hp9; refine bc fun z9 => ?_
      refine el3 hp9 fun hq7 hst' g21 => ?_; try clear hp9
      obtain rfl := hq7
      refine z9 ?_; clear z9; try k_unmd
      try k_sweep
      try dsimp only
      try k_fold
      rw [bt2] at hst'
      replace ho14 := ho14.gr g21.toGw (fun h => h.elim (by decide) (rs_big (by decide) rfl)) (fun h => h.elim (by decide) (rs_big (by decide) rfl)) (fun h => h.elim (by decide) (rs_big (by decide) rfl)) (fun n hn h => h.elim (off_q (by decide) (by rfl) n hn) (off_far rfl rfl (.inl (by decide)) n hn))
      replace j4 := And.intro (g21.toGw.at j3 j4 (fun h => h.elim (by decide) (rs_big (by decide) rfl))) (g21.toGw.regw j3 j4 (fun h => h.elim (by decide) (rs_big (by decide) rfl)))
      replace j5 := j5.gr g21.toGw (fun h => h.elim (by decide) (rs_big (by decide) rfl))
      replace e2 := And.intro (g21.toGw.at e1 e2 (fun h => h.elim (by decide) (rs_big (by decide) rfl))) (g21.toGw.regw e1 e2 (fun h => h.elim (by decide) (rs_big (by decide) rfl)))
      replace e3 := e3.gr g21.toGw (fun h => h.elim (by decide) (rs_big (by decide) rfl))
      replace w2 := w2.gr g21.toGw (fun h => h.elim (by decide) (rs_big (by decide) rfl))
      clear e1 j3 g21 hst s1 s2
      refine bc fun z9 => ?_
      obtain ⟨j3, j4⟩ := j4
      obtain ⟨e1, e2⟩ := e2
      refine z9 ?_; clear z9; try k_unmd
      walk_at "S"
      try k_fold
      k_dflt (refine' Ctr.use (reg := reg21) (law_state 4 47 (by decide) rfl st Ti GT.w) ?B ?F ?X ?N ?T ?k ?pre ?d ?u ?_)
      (case B | F | X | N | T => k_asm); (case k => first | exact rfl | assumption); (case d | u => walk_at "ROOM")
      (case pre => exact ⟨hst', by omega⟩)
      intro r22 news22 reg22 h22 tk22 F22 N22 hp9; refine bc fun z9 => ?_; obtain ⟨hd22, g22⟩ := hp9; refine z9 ?_; clear z9; try k_unmd
      try k_sweep
      try dsimp only
      try k_fold
      replace hst' := hst'.gr g22.toGw id id id off_no
      replace ho14 := ho14.gr g22.toGw id id id off_no
      replace j5 := j5.gr g22.toGw id
      replace j4 := (g22.regs _ j3).trans j4
      replace j3 := g22.keep _ j3 id
      replace e3 := e3.gr g22.toGw id
      replace e2 := (g22.regs _ e1).trans e2
      replace e1 := g22.keep _ e1 id
      replace w2 := w2.gr g22.toGw id
      clear g22
      have hgoodT : ∀ r ∈ Ti.rows, r.good := fun r hr => (GT.ops r hr).good
      have hspT := stD_pure hgoodT
      walk_at "S"
      refine neR (DT.reads (by k_asm) hd22) (DT.reads (by k_asm) w2) (pureE_shaped hspT (by decide)) (pureE_shaped hspT (by decide)) (by walk_at "ROOM") ?_
      rw [(pureE_self 6 _ hspT).1]
      repeat' (first | ((try k_unmd); k_unfold; (try dsimp only)) | ((try dsimp only); (fail_if_success (with_reducible show wpAny _ _ (eval (Expr.IfExp _ _ _ _) _) _ _ _)); walk1) | (leave1; try dsimp only))
      refine bc fun z9 => ?_
      obtain ⟨due, hdue⟩ : ∃ due : Int, due = (if Ti.rows.length = S.rows.length then -1 else (Ti.rows.length : Int)) := ⟨_, rfl⟩
      refine z9 ?_; clear z9; try k_unmd
      refine wpAny_mono (Q := DueEnd due h22 s) ?_ ?_ fun _ _ z => z
      · clear hret
        walk_at "S"
        refine llen_N (n := S.rows.length) (by k_asm) j3 hvr (by omega) fun t23 tk23 => ?_
        walk_at "S"
        · rw [if_pos (by omega)] at hdue
          subst hdue
          exact ⟨_, _, rfl, rfl⟩
        · rw [if_neg (by omega)] at hdue
          subst hdue
          exact ⟨_, _, rfl, rfl⟩
      rintro v s' ⟨tk23, t23, rfl, rfl⟩
      refine bc fun z9 => ?_
      refine ex3 (id hst') fun x1 x2 x3 x4 => ?_
      refine z9 ?_; clear z9; try k_unmd
      have s1 := x4.inst
      have s2 := x4.dict
      clear x4
      refine bc fun z9 => ?_
      refine ex3 (id ho14) fun x5 x6 x7 x8 => ?_
      refine z9 ?_; clear z9; try k_unmd
      have s3 := x8.inst
      have s4 := x8.dict
      clear x8
      have hal : alike Ti.rows S.rows = due ∧ alike S.rows Ti.rows = due := by
        by_cases e : Ti.rows.length = S.rows.length
        · rw [if_pos e] at hdue
          have e2 := hpf.eq_of_length e
          rw [e2, alike_self, hdue]
          exact ⟨rfl, rfl⟩
        · rw [if_neg e] at hdue
          have e3 := hpf.length_le
          rw [hdue]
          exact alike_pre hpf (by omega)
      walk_at "S"
      try k_fold
      k_dflt (refine' Ctr.use (reg := reg22) (story_alike 4 47 5 31 (by decide) (by decide) st ot Ti S) ?B ?F ?X ?N ?T ?k ?pre ?d ?u ?_)
      (case B | F | X | N | T => k_asm); (case k => first | exact rfl | assumption); (case d | u => walk_at "ROOM")
      (case pre => exact ⟨hst', ho14, by omega, by omega, hgoodT, hgood⟩)
      intro r25 news25 reg25 h25 tk25 F25 N25 hp9; refine bc fun z9 => ?_; obtain ⟨⟨t25, rr25⟩, g25⟩ := hp9; refine z9 ?_; clear z9; try k_unmd
      try k_sweep
      try dsimp only
      try k_fold
      rw [hal.1] at rr25
      subst rr25
      replace hst' := hst'.gr g25.toGw id id id off_no
      replace ho14 := ho14.gr g25.toGw id id id off_no
      replace j5 := j5.gr g25.toGw id
      replace j4 := (g25.regs _ j3).trans j4
      replace j3 := g25.keep _ j3 id
      replace e3 := e3.gr g25.toGw id
      replace e2 := (g25.regs _ e1).trans e2
      replace e1 := g25.keep _ e1 id
      replace s1 := g25.inst s1
      replace s2 := g25.keep _ s2 id
      replace s3 := g25.inst s3
      replace s4 := g25.keep _ s4 id
      clear g25 w2
      walk_at "S"
      all_goals (try exact absurd rfl ‹due ≠ due›)
      try k_fold
      k_dflt (refine' Ctr.use (reg := reg25) (story_alike 5 31 4 47 (by decide) (by decide) ot st S Ti) ?B ?F ?X ?N ?T ?k ?pre ?d ?u ?_)
      (case B | F | X | N | T => k_asm); (case k => first | exact rfl | assumption); (case d | u => walk_at "ROOM")
      (case pre => exact ⟨ho14, hst', by omega, by omega, hgood, hgoodT⟩)
      intro r26 news26 reg26 h26 tk26 F26 N26 hp9; refine bc fun z9 => ?_; obtain ⟨⟨t26, rr26⟩, g26⟩ := hp9; refine z9 ?_; clear z9; try k_unmd
      try k_sweep
      try dsimp only
      try k_fold
      rw [hal.2] at rr26
      subst rr26
      replace hst' := hst'.gr g26.toGw id id id off_no
      replace ho14 := ho14.gr g26.toGw id id id off_no
      replace j5 := j5.gr g26.toGw id
      replace j4 := (g26.regs _ j3).trans j4
      replace j3 := g26.keep _ j3 id
      replace e3 := e3.gr g26.toGw id
      replace e2 := (g26.regs _ e1).trans e2
      replace e1 := g26.keep _ e1 id
      replace s1 := g26.inst s1
      replace s2 := g26.keep _ s2 id
      clear g26 s3 s4 hal hdue
      walk_at "S"
      all_goals (try exact absurd rfl ‹due ≠ due›)
      have v2 := oki.up
      rw [← hTi] at v2
      try k_fold
      k_dflt (refine' Ctr.use (reg := reg26) (story_put 4 47 (by decide) rfl st Ti (Tr.leaf (Str.ofString "z")) _ GT.w) ?B ?F ?X ?N ?T ?k ?pre ?d ?u ?_)
      (case B | F | X | N | T => k_asm); (case k => first | exact rfl | assumption); (case d | u => walk_at "ROOM")
      (case pre => exact ⟨hst'.gr (Gr.sub (R := fun _ => False) (by intro p hp; repeat (first | exact hp | refine List.mem_cons_of_mem _ ?_))).toGw id id id off_no, .tuple (.head _) (.cons (.str _ _) .nil), opz_ok, (by show Ti.up.length + 1 ≤ 63; omega), (by show Ti.rows.length + 1 ≤ 1000000; omega)⟩)
      intro r30 news30 reg30 h30 tk30 F30 N30 hp9; refine bc fun z9 => ?_
      refine el3 hp9 fun hq8 hst30 g30 => ?_; try clear hp9
      obtain ⟨t30, rfl⟩ := hq8
      refine z9 ?_; clear z9; try k_unmd
      try k_sweep
      try dsimp only
      try k_fold
      refine bc fun z9 => ?_
      obtain ⟨T2, hT2⟩ : ∃ T, T = ((Tr.leaf (Str.ofString "z")).put Ti).1 := ⟨_, rfl⟩
      refine z9 ?_; clear z9; try k_unmd
      have hz := put_z GT
      rw [← hT2] at hst30 hz
      have hz2 : T2.rows.length = Ti.rows.length + 1 := by rw [hz]; simp
      clear hT2 hst'
      replace ho14 := (ho14.gr (Gr.cons (R := fun _ => False)).toGw id id id off_no).gr g30.toGw (rs_big (by decide) rfl) (rs_big (by decide) rfl) (rs_big (by decide) rfl) (off_far rfl rfl (.inl (by decide)))
      replace j4 := And.intro (g30.toGw.at (.tail _ j3) j4 (rs_big (by decide) rfl)) (g30.toGw.regw (.tail _ j3) j4 (rs_big (by decide) rfl))
      replace j5 := (j5.gr (Gr.cons (R := fun _ => False)).toGw id).gr g30.toGw (rs_big (by decide) rfl)
      replace e2 := And.intro (g30.toGw.at (.tail _ e1) e2 (rs_big (by decide) rfl)) (g30.toGw.regw (.tail _ e1) e2 (rs_big (by decide) rfl))
      replace e3 := (e3.gr (Gr.cons (R := fun _ => False)).toGw id).gr g30.toGw (rs_big (by decide) rfl)
      clear e1 j3 g30 s1 s2
      refine bc fun z9 => ?_
      obtain ⟨j3, j4⟩ := j4
      obtain ⟨e1, e2⟩ := e2
      refine ex3 (id hst30) fun x1 x2 x3 x4 => ?_
      refine z9 ?_; clear z9; try k_unmd
      have s1 := x4.inst
      have s2 := x4.dict
      clear x4
      walk_at "S"
      try k_fold
      k_dflt (refine' Ctr.use (reg := reg30) (story_rows 4 47 (by decide) st T2) ?B ?F ?X ?N ?T ?k ?pre ?d ?u ?_)
      (case B | F | X | N | T => k_asm); (case k => first | exact rfl | assumption); (case d | u => walk_at "ROOM")
      (case pre => exact ⟨hst30, by omega⟩)
      intro r31 news31 reg31 h31 tk31 F31 N31 hp9; refine bc fun z9 => ?_
      refine ex1 hp9 fun l31 h9 => ?_; refine el3 h9 fun hq9 hl31 g31 => ?_; clear h9; try clear hp9
      obtain rfl := hq9
      refine z9 ?_; clear z9; try k_unmd
      try k_sweep
      try dsimp only
      try k_fold
      replace hst30 := hst30.gr g31.toGw id id id off_no
      replace ho14 := ho14.gr g31.toGw id id id off_no
      replace j5 := j5.gr g31.toGw id
      replace j4 := (g31.regs _ j3).trans j4
      replace j3 := g31.keep _ j3 id
      replace e3 := e3.gr g31.toGw id
      replace e2 := (g31.regs _ e1).trans e2
      replace e1 := g31.keep _ e1 id
      replace s1 := g31.inst s1
      replace s2 := g31.keep _ s2 id
      clear g31
      walk_at "S"
      try dsimp only
      refine' lslice_N (n := Ti.rows.length) ?F ?N j3 ?hz ?_ ?hs ?hg
      (case F => k_asm); (case N => k_asm); (case hz => rw [sizeLine_eq]; omega); (case hs => with_unfolding_all rfl); (case hg => intro _; with_unfolding_all rfl)
      intro D34 h34 F34 N34 l34
      walk_at "S"
      refine ladd_N (us := [Value.ref _]) (by k_asm) (by k_asm) (.tail _ (.tail _ (.tail _ (.head _)))) (.head _) (by rw [sizeLine_eq]; simp; omega) fun D35 h35 F35 N35 l35 => ?_
      walk_at "S"
      have hgood2 : ∀ r ∈ T2.rows, r.good := by
        intro r hr
        rw [hz, List.mem_append] at hr
        rcases hr with hr | hr
        · exact hgoodT r hr
        · cases List.mem_singleton.mp hr
          show PyData.strOk _ = true
          decide +kernel
      have hp2 := rows_pureE hgood2
      have hrt : T2.rows.map Row.dat = (S.rows.map Row.dat).take Ti.rows.length ++ [Row.dat (.add (Str.ofString "z") [])] := by
        rw [hz, List.map_append, ← List.map_take, ← List.prefix_iff_eq_take.mp hpf]
        rfl
      refine neR (DT.reads (by k_asm) (hl31.gr (Gr.sub (R := fun _ => False) (by intro p hp; repeat (first | exact hp | refine List.mem_cons_of_mem _ ?_))).toGw id)) (lis_reads (reg := reg31) (by k_asm) (.head _) ((hrt ▸ DTs.append ((j5.gr (Gr.sub (R := fun _ => False) (by intro p hp; repeat (first | exact hp | refine List.mem_cons_of_mem _ ?_))).toGw id).take _) (.cons (.tuple (.tail _ (.tail _ (.head _))) (.cons (.str _ _) (.cons (.str _ _) (.cons (.tuple (.tail _ (.tail _ (.tail _ (.head _)))) .nil) .nil)))) .nil) : DTs _ reg31 _ (T2.rows.map Row.dat)))) (pureE_shaped hp2 (by decide)) (pureE_shaped hp2 (by decide)) (by walk_at "ROOM") ?_
      rw [(pureE_self 5 _ hp2).1]
      refine bc fun z9 => ?_
      refine ex3 (id ho14) fun x5 x6 x7 x8 => ?_
      refine z9 ?_; clear z9; try k_unmd
      have s3 := x8.inst
      have s4 := x8.dict
      clear x8 hrt hp2
      obtain ⟨news35, g35, NN35⟩ : ∃ G, Gr (fun _ => False) reg31 news31 reg31 G ∧ News h₀ L h35 G := ⟨_, (Gr.sub (R := fun _ => False) (by intro p hp; repeat (first | exact hp | refine List.mem_cons_of_mem _ ?_))), N35⟩
      replace hst30 := hst30.gr g35.toGw id id id off_no
      replace ho14 := ho14.gr g35.toGw id id id off_no
      replace j4 := (g35.regs _ j3).trans j4
      replace j3 := g35.keep _ j3 id
      replace e3 := e3.gr g35.toGw id
      replace e2 := (g35.regs _ e1).trans e2
      replace e1 := g35.keep _ e1 id
      replace s1 := g35.inst s1
      replace s2 := g35.keep _ s2 id
      replace s3 := g35.inst s3
      replace s4 := g35.keep _ s4 id
      clear N35 l35 g35 hl31 j5
      have hal2 : alike T2.rows S.rows = (Ti.rows.length : Int) ∧ alike S.rows T2.rows = (Ti.rows.length : Int) := by
        rw [hz]
        exact alike_snoc hpf (z_new G)
      walk_at "S"
      try k_fold
      k_dflt (refine' Ctr.use (reg := reg31) (story_alike 4 47 5 31 (by decide) (by decide) st ot T2 S) ?B ?F ?X ?N ?T ?k ?pre ?d ?u ?_)
      (case B | F | X | N | T => k_asm); (case k => first | exact rfl | assumption); (case d | u => walk_at "ROOM")
      (case pre => exact ⟨hst30, ho14, by omega, by omega, hgood2, hgood⟩)
      intro r36 news36 reg36 h36 tk36 F36 N36 hp9; refine bc fun z9 => ?_; obtain ⟨⟨t36, rr36⟩, g36⟩ := hp9; refine z9 ?_; clear z9; try k_unmd
      try k_sweep
      try dsimp only
      try k_fold
      rw [hal2.1] at rr36
      subst rr36
      replace hst30 := hst30.gr g36.toGw id id id off_no
      replace ho14 := ho14.gr g36.toGw id id id off_no
      replace j4 := (g36.regs _ j3).trans j4
      replace j3 := g36.keep _ j3 id
      replace e3 := e3.gr g36.toGw id
      replace e2 := (g36.regs _ e1).trans e2
      replace e1 := g36.keep _ e1 id
      replace s1 := g36.inst s1
      replace s2 := g36.keep _ s2 id
      replace s3 := g36.inst s3
      replace s4 := g36.keep _ s4 id
      clear g36
      walk_at "S"
      all_goals (try exact absurd rfl ‹(Ti.rows.length : Int) ≠ (Ti.rows.length : Int)›)
      try k_fold
      k_dflt (refine' Ctr.use (reg := reg36) (story_alike 5 31 4 47 (by decide) (by decide) ot st S T2) ?B ?F ?X ?N ?T ?k ?pre ?d ?u ?_)
      (case B | F | X | N | T => k_asm); (case k => first | exact rfl | assumption); (case d | u => walk_at "ROOM")
      (case pre => exact ⟨ho14, hst30, by omega, by omega, hgood, hgood2⟩)
      intro r37 news37 reg37 h37 tk37 F37 N37 hp9; refine bc fun z9 => ?_; obtain ⟨⟨t37, rr37⟩, g37⟩ := hp9; refine z9 ?_; clear z9; try k_unmd
      try k_sweep
      try dsimp only
      try k_fold
      rw [hal2.2] at rr37
      subst rr37
      replace hst30 := hst30.gr g37.toGw id id id off_no
      replace ho14 := ho14.gr g37.toGw id id id off_no
      replace j4 := (g37.regs _ j3).trans j4
      replace j3 := g37.keep _ j3 id
      replace e3 := e3.gr g37.toGw id
      replace e2 := (g37.regs _ e1).trans e2
      replace e1 := g37.keep _ e1 id
      replace s3 := g37.inst s3
      replace s4 := g37.keep _ s4 id
      clear g37 s1 s2 hal2
      walk_at "S"
      all_goals (try exact absurd rfl ‹(Ti.rows.length : Int) ≠ (Ti.rows.length : Int)›)
      refine llen_N (n := S.rows.length) (by k_asm) j3 hvr (by omega) fun t38 tk38 => ?_
      clear j3 j4
      walk_at "S"
      rw [show ((S.rows.length : Int) + 2) = ((S.rows.length + 2 : Nat) : Int) by omega]
      have hb2 := back_all G 2
      try k_fold
      k_dflt (refine' Ctr.use (reg := reg37) (story_back 5 31 63 (by decide) (by decide) (by rfl) (by decide) (by decide) (by decide) ot S ((S.rows.length + 2 : Nat) : Int) _ (by rw [hb2]; exact G.fits)) ?B ?F ?X ?N ?T ?k ?pre ?d ?u ?_)
      (case B | F | X | N | T => k_asm); (case k => first | exact rfl | assumption); (case d | u => walk_at "ROOM")
      (case pre => exact ⟨ho14, by omega⟩)
      intro r39 news39 reg39 h39 tk39 F39 N39 hp9; refine bc fun z9 => ?_
      refine el3 hp9 fun hq10 ho15 g39 => ?_; try clear hp9
      obtain rfl := hq10
      refine z9 ?_; clear z9; try k_unmd
      try k_sweep
      try dsimp only
      try k_fold
      rw [hb2, G.told] at ho15
      replace hst30 := hst30.gr g39.toGw (fun h => h.elim (by decide) (rs_big (by decide) rfl)) (fun h => h.elim (by decide) (rs_big (by decide) rfl)) (fun h => h.elim (by decide) (rs_big (by decide) rfl)) (fun n hn h => h.elim (off_q (by decide) (by rfl) n hn) (off_far rfl rfl (.inl (by decide)) n hn))
      replace e2 := And.intro (g39.toGw.at e1 e2 (fun h => h.elim (by decide) (rs_big (by decide) rfl))) (g39.toGw.regw e1 e2 (fun h => h.elim (by decide) (rs_big (by decide) rfl)))
      replace e3 := e3.gr g39.toGw (fun h => h.elim (by decide) (rs_big (by decide) rfl))
      clear e1 g39 ho14 s3 s4 hb2
      refine bc fun z9 => ?_
      obtain ⟨e1, e2⟩ := e2
      refine ex3 (id hst30) fun x1 x2 x3 x4 => ?_
      refine z9 ?_; clear z9; try k_unmd
      have s1 := x4.inst
      have s2 := x4.dict
      clear x4
      walk_at "S"
      try k_fold
      k_dflt (refine' Ctr.use (reg := reg39) (story_back 4 47 79 (by decide) (by decide) (by rfl) (by decide) (by decide) (by decide) st T2 (-1) _ trivial) ?B ?F ?X ?N ?T ?k ?pre ?d ?u ?_)
      (case B | F | X | N | T => k_asm); (case k => first | exact rfl | assumption); (case d | u => walk_at "ROOM")
      (case pre => exact ⟨hst30, by omega⟩)
      intro r40 news40 reg40 h40 tk40 F40 N40 hp9; refine bc fun z9 => ?_
      refine el3 hp9 fun hq11 hst31 g40 => ?_; try clear hp9
      obtain rfl := hq11
      refine z9 ?_; clear z9; try k_unmd
      try k_sweep
      try dsimp only
      try k_fold
      replace hst31 : StyR w news40 reg40 4 79 st {} := hst31
      replace ho15 := ho15.gr g40.toGw (fun h => h.elim (by decide) (rs_big (by decide) rfl)) (fun h => h.elim (by decide) (rs_big (by decide) rfl)) (fun h => h.elim (by decide) (rs_big (by decide) rfl)) (fun n hn h => h.elim (off_q (by decide) (by rfl) n hn) (off_far rfl rfl (.inl (by decide)) n hn))
      replace e2 := And.intro (g40.toGw.at e1 e2 (fun h => h.elim (by decide) (rs_big (by decide) rfl))) (g40.toGw.regw e1 e2 (fun h => h.elim (by decide) (rs_big (by decide) rfl)))
      replace e3 := e3.gr g40.toGw (fun h => h.elim (by decide) (rs_big (by decide) rfl))
      clear e1 g40 hst30 s1 s2
      obtain ⟨e1, e2⟩ := e2
      walk_at "S"
      try k_fold
      k_dflt (refine' Ctr.use (reg := reg40) (law_state 5 63 (by decide) rfl ot S G.w) ?B ?F ?X ?N ?T ?k ?pre ?d ?u ?_)
      (case B | F | X | N | T => k_asm); (case k => first | exact rfl | assumption); (case d | u => walk_at "ROOM")
      (case pre => exact ⟨ho15, by omega⟩)
      intro r41 news41 reg41 h41 tk41 F41 N41 hp9; refine bc fun z9 => ?_; obtain ⟨hd41, g41⟩ := hp9; refine z9 ?_; clear z9; try k_unmd
      try k_sweep
      try dsimp only
      try k_fold
      replace hst31 := hst31.gr g41.toGw id id id off_no
      replace e3 := e3.gr g41.toGw id
      replace e2 := (g41.regs _ e1).trans e2
      replace e1 := g41.keep _ e1 id
      clear g41 ho15
      repeat' (first | ((try k_unmd); k_unfold; (try dsimp only)) | ((try dsimp only); (fail_if_success (with_reducible show wpAny _ _ (subscriptTail _ _ _ _) _ _ _)); walk1) | (leave1; try dsimp only))
      obtain ⟨vn, w5, w6⟩ := e3.get (k := n) (d := stD S) (by rw [hS]; simp)
      refine kim_back (l := vt) (x := vn) (by k_asm) e1 rfl rfl (by decide) (by rw [hvt]; omega) (by decide) (by rw [hvt, show (-1 + ((n + 1 : Nat) : Int)).toNat = n by omega]; exact w5) ?_
      walk_at "S"
      refine eqR (DT.reads (by k_asm) hd41) (DT.reads (by k_asm) w6) (pureE_shaped hspure (by decide)) (pureE_shaped hspure (by decide)) (by walk_at "ROOM") ?_
      rw [(pureE_self 6 _ hspure).1]
      walk_at "S"
      try k_fold
      k_dflt (refine' Ctr.use (reg := reg41) (law_state 4 79 (by decide) rfl st {} whs_empty) ?B ?F ?X ?N ?T ?k ?pre ?d ?u ?_)
      (case B | F | X | N | T => k_asm); (case k => first | exact rfl | assumption); (case d | u => walk_at "ROOM")
      (case pre => exact ⟨hst31, by simp⟩)
      intro r42 news42 reg42 h42 tk42 F42 N42 hp9; refine bc fun z9 => ?_; obtain ⟨hd42, g42⟩ := hp9; refine z9 ?_; clear z9; try k_unmd
      try k_sweep
      try dsimp only
      try k_fold
      replace e3 := e3.gr g42.toGw id
      replace e2 := (g42.regs _ e1).trans e2
      replace e1 := g42.keep _ e1 id
      clear g42 hst31
      repeat' (first | ((try k_unmd); k_unfold; (try dsimp only)) | ((try dsimp only); (fail_if_success (with_reducible show wpAny _ _ (subscriptTail _ _ _ _) _ _ _)); walk1) | (leave1; try dsimp only))
      refine bc fun z9 => ?_
      obtain ⟨v0, w7, w8⟩ := e3.get (k := 0) (d := stD {}) (by simp [laps])
      refine z9 ?_; clear z9; try k_unmd
      refine item_at (n := 0) (by k_asm) e1 w7 (by omega) ?_
      have hsp0 : pureE 6 (stD {}) = true := stD_pure fun r h => nomatch h
      walk_at "S"
      refine eqR (DT.reads (by k_asm) hd42) (DT.reads (by k_asm) w8) (pureE_shaped hsp0 (by decide)) (pureE_shaped hsp0 (by decide)) (by walk_at "ROOM") ?_
      rw [(pureE_self 6 _ hsp0).1]
      walk_at "S"
      exact hret _ _ _ _ (by k_asm) (by k_asm)
end
section
theorem last : PySem.Challenge.rw_pq0074_01.Holds := by
  refine holds_law ws fun said => ?_
  refine holds_open (q := VV) (loose := []) (Xt := XT) (XP := XL VV []) (Yf := HO.obs) (Ya := HO.val) (YP := HO.says) (N := 7544) left HO.of HO.keeps (fun s e => xl_of s (Bool.and_eq_true_iff.mp e).1) XL.keeps (by rfl) (by rfl) (by rfl) (fun s e => recFacts_of (Bool.and_eq_true_iff.mp e).2) (by rfl) (by first | assumption | decide +kernel) (by decide +kernel) ⟨rfl, rfl, rfl, rfl, rfl, by decide +kernel⟩ ?hw ?hc
  (case hw => w_witness2)
  k_fill
  intro w s₀ s₁ mg mb G Y fa o pm cd doc dV kV ho hd hcd hD hmg hg args vals as hpre hlay hrd hwl hlo
  have KX := kIn_of Y
  have V := (Ground.X G).2
  refine Ground.open G ?_
  intro T B D TE TW
  try (refine guard_noD D (by decide +kernel) ?_; clear D)
  obtain ⟨_, _, M⟩ := bmod_of_top T
  have TA := at_of_top T
  try (obtain ⟨_, _, he, B0⟩ := based_of_top T rfl hmg ho hd; have he' : cd = _ := he; subst he'; clear he)
  clear hmg
  wrow_args hpre hlay hrd hwl hlo
  first | refine callC_kw (enter_call ?_) | refine enter_call ?_ | refine callC_kw (enter_callW ?_) | refine enter_callW ?_ | w_how
  w_top on
  try refine codeAny_mono ?_ (fun _ _ g => GoodW.toG g)
  have K0 := below_caller (Top.heap T)
  w_call any ho hd hcd hD T F
  clear hd TA
  k_drop
  with_reducible refine' law_body (kwd := []) ?hd ?B ?F ?X ?N ?T ?L ?I ?le ?hE ?hret
  (case hd => rfl)
  (case B => assumption); (case F => assumption); (case X => assumption); (case N => assumption); (case T => assumption); (case L => assumption); (case I => assumption); (case le => omega)
  · passes_own
  · intro h' tk' m' news' F' N'
    try dsimp only
    k_steps
end
end Mine
theorem PySem.Challenge.cw_pq0074_01_holds : PySem.Challenge.rw_pq0074_01.Holds := by
  exact Mine.last
