import PyProof.Rows.All
import Wide.All
import OpenK.AllK
import Wide.FinOn
import PySem.Challenge.RW_pq0756_01
open PySem PySem.W PySem.Spec PySem.Calls PyProof.Rows
set_option Elab.async false
set_option maxRecDepth 100000
namespace Mine
set_option maxHeartbeats 4000000
def nthS : List Stmt → Nat → Option Stmt
  | [], _ => none
  | s :: _, 0 => some s
  | _ :: r, n + 1 => nthS r n
def fnOfS : Option Stmt → Option (Arguments × List Stmt × Scope)
  | some (.FunctionDef _ a b _ _ _ c _ _ _) => some (a, b, c)
  | _ => none
def clsOfS : Option Stmt → List Stmt
  | some (.ClassDef _ _ _ b _ _ _ _ _ _ _) => b
  | _ => []
abbrev pr : Program := PySem.Challenge.pw_pq0756_01
abbrev cellAt (i : Nat) : Option Stmt := nthS pr.main.body i
abbrev defAt (i : Nat) : Option (Arguments × List Stmt × Scope) := fnOfS (cellAt i)
abbrev methAt (i j : Nat) : Option (Arguments × List Stmt × Scope) := fnOfS (nthS (clsOfS (cellAt i)) j)
noncomputable def hd.heap_39 : Params → Frag := by
  refine' (?f : (a0 : Arguments) → (b0 : List Stmt) → (c0 : Scope) → defAt 0 = some (a0, b0, c0) → (a1 : Arguments) → (b1 : List Stmt) → (c1 : Scope) → methAt 7 0 = some (a1, b1, c1) → (a2 : Arguments) → (b2 : List Stmt) → (c2 : Scope) → defAt 8 = some (a2, b2, c2) → (a3 : Arguments) → (b3 : List Stmt) → (c3 : Scope) → defAt 10 = some (a3, b3, c3) → (a4 : Arguments) → (b4 : List Stmt) → (c4 : Scope) → defAt 13 = some (a4, b4, c4) → (a5 : Arguments) → (b5 : List Stmt) → (c5 : Scope) → defAt 15 = some (a5, b5, c5) → (a6 : Arguments) → (b6 : List Stmt) → (c6 : Scope) → defAt 16 = some (a6, b6, c6) → (a7 : Arguments) → (b7 : List Stmt) → (c7 : Scope) → methAt 18 0 = some (a7, b7, c7) → (a8 : Arguments) → (b8 : List Stmt) → (c8 : Scope) → methAt 18 1 = some (a8, b8, c8) → (a9 : Arguments) → (b9 : List Stmt) → (c9 : Scope) → methAt 18 2 = some (a9, b9, c9) → (a10 : Arguments) → (b10 : List Stmt) → (c10 : Scope) → methAt 18 3 = some (a10, b10, c10) → (a11 : Arguments) → (b11 : List Stmt) → (c11 : Scope) → methAt 18 4 = some (a11, b11, c11) → (a12 : Arguments) → (b12 : List Stmt) → (c12 : Scope) → methAt 18 5 = some (a12, b12, c12) → (a13 : Arguments) → (b13 : List Stmt) → (c13 : Scope) → methAt 18 6 = some (a13, b13, c13) → (a14 : Arguments) → (b14 : List Stmt) → (c14 : Scope) → methAt 18 7 = some (a14, b14, c14) → (a15 : Arguments) → (b15 : List Stmt) → (c15 : Scope) → methAt 21 0 = some (a15, b15, c15) → (a16 : Arguments) → (b16 : List Stmt) → (c16 : Scope) → methAt 23 0 = some (a16, b16, c16) → (a17 : Arguments) → (b17 : List Stmt) → (c17 : Scope) → methAt 23 1 = some (a17, b17, c17) → (a18 : Arguments) → (b18 : List Stmt) → (c18 : Scope) → methAt 23 2 = some (a18, b18, c18) → (a19 : Arguments) → (b19 : List Stmt) → (c19 : Scope) → methAt 23 3 = some (a19, b19, c19) → (a20 : Arguments) → (b20 : List Stmt) → (c20 : Scope) → methAt 23 4 = some (a20, b20, c20) → (a21 : Arguments) → (b21 : List Stmt) → (c21 : Scope) → methAt 23 5 = some (a21, b21, c21) → (a22 : Arguments) → (b22 : List Stmt) → (c22 : Scope) → methAt 23 6 = some (a22, b22, c22) → (a23 : Arguments) → (b23 : List Stmt) → (c23 : Scope) → methAt 25 0 = some (a23, b23, c23) → (a24 : Arguments) → (b24 : List Stmt) → (c24 : Scope) → methAt 25 1 = some (a24, b24, c24) → (a25 : Arguments) → (b25 : List Stmt) → (c25 : Scope) → methAt 25 2 = some (a25, b25, c25) → (a26 : Arguments) → (b26 : List Stmt) → (c26 : Scope) → methAt 25 3 = some (a26, b26, c26) → (a27 : Arguments) → (b27 : List Stmt) → (c27 : Scope) → methAt 25 4 = some (a27, b27, c27) → (a28 : Arguments) → (b28 : List Stmt) → (c28 : Scope) → methAt 25 5 = some (a28, b28, c28) → (a29 : Arguments) → (b29 : List Stmt) → (c29 : Scope) → methAt 25 6 = some (a29, b29, c29) → (a30 : Arguments) → (b30 : List Stmt) → (c30 : Scope) → methAt 25 7 = some (a30, b30, c30) → (a31 : Arguments) → (b31 : List Stmt) → (c31 : Scope) → methAt 25 8 = some (a31, b31, c31) → (a32 : Arguments) → (b32 : List Stmt) → (c32 : Scope) → methAt 25 9 = some (a32, b32, c32) → (a33 : Arguments) → (b33 : List Stmt) → (c33 : Scope) → methAt 25 10 = some (a33, b33, c33) → (a34 : Arguments) → (b34 : List Stmt) → (c34 : Scope) → methAt 25 11 = some (a34, b34, c34) → (a35 : Arguments) → (b35 : List Stmt) → (c35 : Scope) → methAt 25 12 = some (a35, b35, c35) → (a36 : Arguments) → (b36 : List Stmt) → (c36 : Scope) → methAt 25 13 = some (a36, b36, c36) → (a37 : Arguments) → (b37 : List Stmt) → (c37 : Scope) → methAt 25 14 = some (a37, b37, c37) → (a38 : Arguments) → (b38 : List Stmt) → (c38 : Scope) → methAt 25 15 = some (a38, b38, c38) → (a39 : Arguments) → (b39 : List Stmt) → (c39 : Scope) → methAt 25 16 = some (a39, b39, c39) → (a40 : Arguments) → (b40 : List Stmt) → (c40 : Scope) → methAt 25 17 = some (a40, b40, c40) → (a41 : Arguments) → (b41 : List Stmt) → (c41 : Scope) → methAt 27 0 = some (a41, b41, c41) → (a42 : Arguments) → (b42 : List Stmt) → (c42 : Scope) → methAt 28 0 = some (a42, b42, c42) → (a43 : Arguments) → (b43 : List Stmt) → (c43 : Scope) → methAt 28 1 = some (a43, b43, c43) → (a44 : Arguments) → (b44 : List Stmt) → (c44 : Scope) → methAt 28 2 = some (a44, b44, c44) → (a45 : Arguments) → (b45 : List Stmt) → (c45 : Scope) → defAt 30 = some (a45, b45, c45) → (a46 : Arguments) → (b46 : List Stmt) → (c46 : Scope) → defAt 31 = some (a46, b46, c46) → (a47 : Arguments) → (b47 : List Stmt) → (c47 : Scope) → defAt 32 = some (a47, b47, c47) → Params → Frag) _ _ _ ?h0 _ _ _ ?h1 _ _ _ ?h2 _ _ _ ?h3 _ _ _ ?h4 _ _ _ ?h5 _ _ _ ?h6 _ _ _ ?h7 _ _ _ ?h8 _ _ _ ?h9 _ _ _ ?h10 _ _ _ ?h11 _ _ _ ?h12 _ _ _ ?h13 _ _ _ ?h14 _ _ _ ?h15 _ _ _ ?h16 _ _ _ ?h17 _ _ _ ?h18 _ _ _ ?h19 _ _ _ ?h20 _ _ _ ?h21 _ _ _ ?h22 _ _ _ ?h23 _ _ _ ?h24 _ _ _ ?h25 _ _ _ ?h26 _ _ _ ?h27 _ _ _ ?h28 _ _ _ ?h29 _ _ _ ?h30 _ _ _ ?h31 _ _ _ ?h32 _ _ _ ?h33 _ _ _ ?h34 _ _ _ ?h35 _ _ _ ?h36 _ _ _ ?h37 _ _ _ ?h38 _ _ _ ?h39 _ _ _ ?h40 _ _ _ ?h41 _ _ _ ?h42 _ _ _ ?h43 _ _ _ ?h44 _ _ _ ?h45 _ _ _ ?h46 _ _ _ ?h47
  case f => exact fun a0 b0 c0 _ a1 b1 c1 _ a2 b2 c2 _ a3 b3 c3 _ a4 b4 c4 _ a5 b5 c5 _ a6 b6 c6 _ a7 b7 c7 _ a8 b8 c8 _ a9 b9 c9 _ a10 b10 c10 _ a11 b11 c11 _ a12 b12 c12 _ a13 b13 c13 _ a14 b14 c14 _ a15 b15 c15 _ a16 b16 c16 _ a17 b17 c17 _ a18 b18 c18 _ a19 b19 c19 _ a20 b20 c20 _ a21 b21 c21 _ a22 b22 c22 _ a23 b23 c23 _ a24 b24 c24 _ a25 b25 c25 _ a26 b26 c26 _ a27 b27 c27 _ a28 b28 c28 _ a29 b29 c29 _ a30 b30 c30 _ a31 b31 c31 _ a32 b32 c32 _ a33 b33 c33 _ a34 b34 c34 _ a35 b35 c35 _ a36 b36 c36 _ a37 b37 c37 _ a38 b38 c38 _ a39 b39 c39 _ a40 b40 c40 _ a41 b41 c41 _ a42 b42 c42 _ a43 b43 c43 _ a44 b44 c44 _ a45 b45 c45 _ a46 b46 c46 _ a47 b47 c47 _ P => (nat_lit 2, { cls := .none, data := .dict #[{ hash := PyData.keyHash P (.ofString "type.__subclasses__.Exception.0"), key := .str (.ofString "type.__subclasses__.Exception.0") 420, val := .int 157 0 }, { hash := PyData.keyHash P (.ofString "type.__subclasses__.Exception.n"), key := .str (.ofString "type.__subclasses__.Exception.n") 421, val := .int 1 0 }] 2 }) ::
    (nat_lit 3, { cls := .type "dict", data := .dict #[{ hash := PyData.keyHash P (.ofString "__name__"), key := .str (.ofString "__name__") 165, val := .str (.ofString "law_pq0756_01") 834 }, { hash := PyData.keyHash P (.ofString "__doc__"), key := .str (.ofString "__doc__") 166, val := .none }, { hash := PyData.keyHash P (.ofString "__package__"), key := .str (.ofString "__package__") 167, val := .none }, { hash := PyData.keyHash P (.ofString "__loader__"), key := .str (.ofString "__loader__") 168, val := .builtin "__main__.__loader__#opaque" }, { hash := PyData.keyHash P (.ofString "__spec__"), key := .str (.ofString "__spec__") 169, val := .none }, { hash := PyData.keyHash P (.ofString "__annotations__"), key := .str (.ofString "__annotations__") 170, val := .ref 6 }, { hash := PyData.keyHash P (.ofString "__builtins__"), key := .str (.ofString "__builtins__") 171, val := .ref 4 }, { hash := PyData.keyHash P (.ofString "__file__"), key := .str (.ofString "__file__") 173, val := .str (.ofString "/claim/cut.py") 172 }, { hash := PyData.keyHash P (.ofString "__cached__"), key := .str (.ofString "__cached__") 174, val := .none }, { hash := PyData.keyHash P (.ofString "_wall"), key := .str (.ofString "_wall") 193, val := .ref 21 }, { hash := PyData.keyHash P (.ofString "FP"), key := .str (.ofString "FP") 197, val := .int 11 196 }, { hash := PyData.keyHash P (.ofString "SP"), key := .str (.ofString "SP") 199, val := .int 14 198 }, { hash := PyData.keyHash P (.ofString "LNK"), key := .str (.ofString "LNK") 201, val := .int 15 200 }, { hash := PyData.keyHash P (.ofString "SCRATCH"), key := .str (.ofString "SCRATCH") 203, val := .int 10 202 }, { hash := PyData.keyHash P (.ofString "SCRATCH2"), key := .str (.ofString "SCRATCH2") 205, val := .int 12 204 }, { hash := PyData.keyHash P (.ofString "Item"), key := .str (.ofString "Item") 250, val := .ref 38 }, { hash := PyData.keyHash P (.ofString "holds_register"), key := .str (.ofString "holds_register") 257, val := .ref 49 }, { hash := PyData.keyHash P (.ofString "load_const"), key := .str (.ofString "load_const") 269, val := .ref 56 }, { hash := PyData.keyHash P (.ofString "STRAIGHT"), key := .str (.ofString "STRAIGHT") 273, val := .int 4 272 }, { hash := PyData.keyHash P (.ofString "zero_words"), key := .str (.ofString "zero_words") 287, val := .ref 63 }, { hash := PyData.keyHash P (.ofString "begin_rows"), key := .str (.ofString "begin_rows") 298, val := .ref 70 }, { hash := PyData.keyHash P (.ofString "end_rows"), key := .str (.ofString "end_rows") 306, val := .ref 77 }, { hash := PyData.keyHash P (.ofString "CodeBuffer"), key := .str (.ofString "CodeBuffer") 401, val := .ref 143 }, { hash := PyData.keyHash P (.ofString "YardError"), key := .str (.ofString "YardError") 423, val := .ref 157 }, { hash := PyData.keyHash P (.ofString "BadRow"), key := .str (.ofString "BadRow") 448, val := .ref 177 }, { hash := PyData.keyHash P (.ofString "RegisterPool"), key := .str (.ofString "RegisterPool") 534, val := .ref 237 }, { hash := PyData.keyHash P (.ofString "Coder"), key := .str (.ofString "Coder") 730, val := .ref 379 }, { hash := PyData.keyHash P (.ofString "Type"), key := .str (.ofString "Type") 774, val := .ref 400 }, { hash := PyData.keyHash P (.ofString "Types"), key := .str (.ofString "Types") 833, val := .ref 436 }, { hash := PyData.keyHash P (.ofString "_law_row_of"), key := .str (.ofString "_law_row_of") 846, val := .ref 447 }, { hash := PyData.keyHash P (.ofString "_law_walked"), key := .str (.ofString "_law_walked") 864, val := .ref 454 }, { hash := PyData.keyHash P (.ofString "law"), key := .str (.ofString "law") 870, val := .ref 459 }] 32 }) ::
    (nat_lit 15, { cls := .type "tuple", data := .seq #[] }) ::
    (nat_lit 17, { cls := .type "tuple", data := .seq #[.str (.ofString "k") 190] }) ::
    (nat_lit 18, { cls := .type "tuple", data := .seq #[] }) ::
    (nat_lit 20, { cls := .type "code", data := .fields #[.str (.ofString "_wall") 187, .str (.ofString "_wall") 188, .str (.ofString "/claim/cut.py") 189, .int 1 0, .int 1 0, .int 0 0, .int 0 0, .int 3 0, .ref 15, .bool true, .int 181 0, .ref 16, .none, .ref 17, .ref 18, .ref 19, .int 191 0, .int 1 0, .str (.ofString "/claim/cut.py") 192] }) ::
    (nat_lit 21, { cls := .type "function", data := .func { name := .ofString "_wall", qualname := .ofString "_wall", params := a0, body := .stmts b0, scope := c0, globals := 3, closure := [], defaults := .none, kwdefaults := .none, pyModule := .str (.ofString "__main__") 164, code := .ref 20 } }) ::
    (nat_lit 29, { cls := .type "tuple", data := .seq #[] }) ::
    (nat_lit 31, { cls := .type "tuple", data := .seq #[.str (.ofString "self") 221, .str (.ofString "mode") 222, .str (.ofString "t") 223] }) ::
    (nat_lit 32, { cls := .type "tuple", data := .seq #[] }) ::
    (nat_lit 34, { cls := .type "code", data := .fields #[.str (.ofString "__init__") 218, .str (.ofString "Item.__init__") 219, .str (.ofString "/claim/cut.py") 220, .int 12 0, .int 3 0, .int 0 0, .int 0 0, .int 3 0, .ref 29, .bool true, .int 181 0, .ref 30, .none, .ref 31, .ref 32, .ref 33, .int 224 0, .int 12 0, .str (.ofString "/claim/cut.py") 225] }) ::
    (nat_lit 35, { cls := .type "function", data := .func { name := .ofString "__init__", qualname := .ofString "Item.__init__", params := a1, body := .stmts b1, scope := c1, globals := 3, closure := [], defaults := .none, kwdefaults := .none, pyModule := .str (.ofString "moduleyard.items") 194, code := .ref 34 } }) ::
    (nat_lit 36, { cls := .type "tuple", data := .seq #[.str (.ofString "cond") 227, .str (.ofString "falses") 228, .str (.ofString "fix") 229, .str (.ofString "length") 230, .str (.ofString "mode") 231, .str (.ofString "obj") 232, .str (.ofString "offset") 233, .str (.ofString "place") 234, .str (.ofString "reg") 235, .str (.ofString "root") 236, .str (.ofString "slot") 237, .str (.ofString "t") 238, .str (.ofString "tag") 239, .str (.ofString "truths") 240, .str (.ofString "value") 241, .str (.ofString "was") 242] }) ::
    (nat_lit 37, { cls := .type "dict", data := .dict #[{ hash := PyData.keyHash P (.ofString "__module__"), key := .str (.ofString "__module__") 213, val := .str (.ofString "moduleyard.items") 194 }, { hash := PyData.keyHash P (.ofString "__firstlineno__"), key := .str (.ofString "__firstlineno__") 217, val := .int 10 216 }, { hash := PyData.keyHash P (.ofString "__init__"), key := .str (.ofString "__init__") 226, val := .ref 35 }, { hash := PyData.keyHash P (.ofString "__static_attributes__"), key := .str (.ofString "__static_attributes__") 243, val := .ref 36 }, { hash := PyData.keyHash P (.ofString "__dict__"), key := .str (.ofString "__dict__") 245, val := .ref 39 }, { hash := PyData.keyHash P (.ofString "__weakref__"), key := .str (.ofString "__weakref__") 247, val := .ref 40 }, { hash := PyData.keyHash P (.ofString "__doc__"), key := .str (.ofString "__doc__") 248, val := .none }] 4 }) ::
    (nat_lit 38, { cls := .type "type", data := .cls { name := .ofString "Item", bases := [.type "object"], mro := [.ref 38, .type "object"], ns := 37, qualname := .ofString "Item" }, slots := #[none, none, some (.str (.ofString "Item") 206), some (.str (.ofString "Item") 214), some (.builtin "object.__new__"), some (.bool true)] }) ::
    (nat_lit 39, { cls := .type "getset_descriptor", data := .fields #[.str (.ofString "__dict__") 244, .ref 38, .builtin "function.__dict__", .builtin "function.__dict__#set"] }) ::
    (nat_lit 40, { cls := .type "getset_descriptor", data := .fields #[.str (.ofString "__weakref__") 246, .ref 38, .builtin "ExceptionGroup.__weakref__", .none] }) ::
    (nat_lit 43, { cls := .type "tuple", data := .seq #[] }) ::
    (nat_lit 45, { cls := .type "tuple", data := .seq #[.str (.ofString "item") 254] }) ::
    (nat_lit 46, { cls := .type "tuple", data := .seq #[] }) ::
    (nat_lit 48, { cls := .type "code", data := .fields #[.str (.ofString "holds_register") 251, .str (.ofString "holds_register") 252, .str (.ofString "/claim/cut.py") 253, .int 29 0, .int 1 0, .int 0 0, .int 0 0, .int 3 0, .ref 43, .bool true, .int 181 0, .ref 44, .none, .ref 45, .ref 46, .ref 47, .int 255 0, .int 29 0, .str (.ofString "/claim/cut.py") 256] }) ::
    (nat_lit 49, { cls := .type "function", data := .func { name := .ofString "holds_register", qualname := .ofString "holds_register", params := a2, body := .stmts b2, scope := c2, globals := 3, closure := [], defaults := .none, kwdefaults := .none, pyModule := .str (.ofString "moduleyard.items") 194, code := .ref 48 } }) ::
    (nat_lit 50, { cls := .type "tuple", data := .seq #[] }) ::
    (nat_lit 52, { cls := .type "tuple", data := .seq #[.str (.ofString "coder") 263, .str (.ofString "reg") 264, .str (.ofString "value") 265, .str (.ofString "word") 266] }) ::
    (nat_lit 53, { cls := .type "tuple", data := .seq #[] }) ::
    (nat_lit 55, { cls := .type "code", data := .fields #[.str (.ofString "load_const") 260, .str (.ofString "load_const") 261, .str (.ofString "/claim/cut.py") 262, .int 32 0, .int 3 0, .int 0 0, .int 0 0, .int 3 0, .ref 50, .bool true, .int 181 0, .ref 51, .none, .ref 52, .ref 53, .ref 54, .int 267 0, .int 32 0, .str (.ofString "/claim/cut.py") 268] }) ::
    (nat_lit 56, { cls := .type "function", data := .func { name := .ofString "load_const", qualname := .ofString "load_const", params := a3, body := .stmts b3, scope := c3, globals := 3, closure := [], defaults := .none, kwdefaults := .none, pyModule := .str (.ofString "moduleyard.loads") 258, code := .ref 55 } }) ::
    (nat_lit 57, { cls := .type "tuple", data := .seq #[] }) ::
    (nat_lit 59, { cls := .type "tuple", data := .seq #[.str (.ofString "coder") 277, .str (.ofString "base") 278, .str (.ofString "offset") 279, .str (.ofString "words") 280, .str (.ofString "place") 281, .str (.ofString "counter") 282, .str (.ofString "reg") 283, .str (.ofString "start") 284] }) ::
    (nat_lit 60, { cls := .type "tuple", data := .seq #[] }) ::
    (nat_lit 62, { cls := .type "code", data := .fields #[.str (.ofString "zero_words") 274, .str (.ofString "zero_words") 275, .str (.ofString "/claim/cut.py") 276, .int 44 0, .int 4 0, .int 0 0, .int 0 0, .int 3 0, .ref 57, .bool true, .int 181 0, .ref 58, .none, .ref 59, .ref 60, .ref 61, .int 285 0, .int 44 0, .str (.ofString "/claim/cut.py") 286] }) ::
    (nat_lit 63, { cls := .type "function", data := .func { name := .ofString "zero_words", qualname := .ofString "zero_words", params := a4, body := .stmts b4, scope := c4, globals := 3, closure := [], defaults := .none, kwdefaults := .none, pyModule := .str (.ofString "moduleyard.moves") 270, code := .ref 62 } }) ::
    (nat_lit 64, { cls := .type "tuple", data := .seq #[] }) ::
    (nat_lit 66, { cls := .type "tuple", data := .seq #[.str (.ofString "coder") 293, .str (.ofString "local_bytes") 294, .str (.ofString "room") 295] }) ::
    (nat_lit 67, { cls := .type "tuple", data := .seq #[] }) ::
    (nat_lit 69, { cls := .type "code", data := .fields #[.str (.ofString "begin_rows") 290, .str (.ofString "begin_rows") 291, .str (.ofString "/claim/cut.py") 292, .int 63 0, .int 2 0, .int 0 0, .int 0 0, .int 3 0, .ref 64, .bool true, .int 181 0, .ref 65, .none, .ref 66, .ref 67, .ref 68, .int 296 0, .int 63 0, .str (.ofString "/claim/cut.py") 297] }) ::
    (nat_lit 70, { cls := .type "function", data := .func { name := .ofString "begin_rows", qualname := .ofString "begin_rows", params := a5, body := .stmts b5, scope := c5, globals := 3, closure := [], defaults := .none, kwdefaults := .none, pyModule := .str (.ofString "moduleyard.genproc") 288, code := .ref 69 } }) ::
    (nat_lit 71, { cls := .type "tuple", data := .seq #[] }) ::
    (nat_lit 73, { cls := .type "tuple", data := .seq #[.str (.ofString "coder") 302, .str (.ofString "room") 303] }) ::
    (nat_lit 74, { cls := .type "tuple", data := .seq #[] }) ::
    (nat_lit 76, { cls := .type "code", data := .fields #[.str (.ofString "end_rows") 299, .str (.ofString "end_rows") 300, .str (.ofString "/claim/cut.py") 301, .int 70 0, .int 2 0, .int 0 0, .int 0 0, .int 3 0, .ref 71, .bool true, .int 181 0, .ref 72, .none, .ref 73, .ref 74, .ref 75, .int 304 0, .int 70 0, .str (.ofString "/claim/cut.py") 305] }) ::
    (nat_lit 77, { cls := .type "function", data := .func { name := .ofString "end_rows", qualname := .ofString "end_rows", params := a6, body := .stmts b6, scope := c6, globals := 3, closure := [], defaults := .none, kwdefaults := .none, pyModule := .str (.ofString "moduleyard.genproc") 288, code := .ref 76 } }) ::
    (nat_lit 85, { cls := .type "tuple", data := .seq #[] }) ::
    (nat_lit 87, { cls := .type "tuple", data := .seq #[.str (.ofString "self") 324] }) ::
    (nat_lit 88, { cls := .type "tuple", data := .seq #[] }) ::
    (nat_lit 90, { cls := .type "code", data := .fields #[.str (.ofString "__init__") 321, .str (.ofString "CodeBuffer.__init__") 322, .str (.ofString "/claim/cut.py") 323, .int 79 0, .int 1 0, .int 0 0, .int 0 0, .int 3 0, .ref 85, .bool true, .int 181 0, .ref 86, .none, .ref 87, .ref 88, .ref 89, .int 325 0, .int 79 0, .str (.ofString "/claim/cut.py") 326] }) ::
    (nat_lit 91, { cls := .type "function", data := .func { name := .ofString "__init__", qualname := .ofString "CodeBuffer.__init__", params := a7, body := .stmts b7, scope := c7, globals := 3, closure := [], defaults := .none, kwdefaults := .none, pyModule := .str (.ofString "moduleyard.codebuf") 307, code := .ref 90 } }) ::
    (nat_lit 92, { cls := .type "tuple", data := .seq #[] }) ::
    (nat_lit 94, { cls := .type "tuple", data := .seq #[.str (.ofString "self") 331, .str (.ofString "name") 332, .str (.ofString "a") 333, .str (.ofString "b") 334, .str (.ofString "c") 335] }) ::
    (nat_lit 95, { cls := .type "tuple", data := .seq #[] }) ::
    (nat_lit 97, { cls := .type "code", data := .fields #[.str (.ofString "put") 328, .str (.ofString "CodeBuffer.put") 329, .str (.ofString "/claim/cut.py") 330, .int 82 0, .int 5 0, .int 0 0, .int 0 0, .int 3 0, .ref 92, .bool true, .int 181 0, .ref 93, .none, .ref 94, .ref 95, .ref 96, .int 336 0, .int 82 0, .str (.ofString "/claim/cut.py") 337] }) ::
    (nat_lit 98, { cls := .type "function", data := .func { name := .ofString "put", qualname := .ofString "CodeBuffer.put", params := a8, body := .stmts b8, scope := c8, globals := 3, closure := [], defaults := .none, kwdefaults := .none, pyModule := .str (.ofString "moduleyard.codebuf") 307, code := .ref 97 } }) ::
    (nat_lit 99, { cls := .type "tuple", data := .seq #[] }) ::
    (nat_lit 101, { cls := .type "tuple", data := .seq #[.str (.ofString "self") 342] }) ::
    (nat_lit 102, { cls := .type "tuple", data := .seq #[] }) ::
    (nat_lit 104, { cls := .type "code", data := .fields #[.str (.ofString "here") 339, .str (.ofString "CodeBuffer.here") 340, .str (.ofString "/claim/cut.py") 341, .int 86 0, .int 1 0, .int 0 0, .int 0 0, .int 3 0, .ref 99, .bool true, .int 181 0, .ref 100, .none, .ref 101, .ref 102, .ref 103, .int 343 0, .int 86 0, .str (.ofString "/claim/cut.py") 344] }) ::
    (nat_lit 105, { cls := .type "function", data := .func { name := .ofString "here", qualname := .ofString "CodeBuffer.here", params := a9, body := .stmts b9, scope := c9, globals := 3, closure := [], defaults := .none, kwdefaults := .none, pyModule := .str (.ofString "moduleyard.codebuf") 307, code := .ref 104 } }) ::
    (nat_lit 106, { cls := .type "tuple", data := .seq #[] }) ::
    (nat_lit 108, { cls := .type "tuple", data := .seq #[.str (.ofString "self") 349, .str (.ofString "cond") 350] }) ::
    (nat_lit 109, { cls := .type "tuple", data := .seq #[] }) ::
    (nat_lit 111, { cls := .type "code", data := .fields #[.str (.ofString "jump") 346, .str (.ofString "CodeBuffer.jump") 347, .str (.ofString "/claim/cut.py") 348, .int 89 0, .int 2 0, .int 0 0, .int 0 0, .int 3 0, .ref 106, .bool true, .int 181 0, .ref 107, .none, .ref 108, .ref 109, .ref 110, .int 351 0, .int 89 0, .str (.ofString "/claim/cut.py") 352] }) ::
    (nat_lit 112, { cls := .type "function", data := .func { name := .ofString "jump", qualname := .ofString "CodeBuffer.jump", params := a10, body := .stmts b10, scope := c10, globals := 3, closure := [], defaults := .none, kwdefaults := .none, pyModule := .str (.ofString "moduleyard.codebuf") 307, code := .ref 111 } }) ::
    (nat_lit 113, { cls := .type "tuple", data := .seq #[] }) ::
    (nat_lit 115, { cls := .type "tuple", data := .seq #[.str (.ofString "self") 357, .str (.ofString "indexes") 358, .str (.ofString "target") 359] }) ::
    (nat_lit 116, { cls := .type "tuple", data := .seq #[] }) ::
    (nat_lit 118, { cls := .type "code", data := .fields #[.str (.ofString "patch") 354, .str (.ofString "CodeBuffer.patch") 355, .str (.ofString "/claim/cut.py") 356, .int 92 0, .int 3 0, .int 0 0, .int 0 0, .int 3 0, .ref 113, .bool true, .int 181 0, .ref 114, .none, .ref 115, .ref 116, .ref 117, .int 360 0, .int 92 0, .str (.ofString "/claim/cut.py") 361] }) ::
    (nat_lit 119, { cls := .type "function", data := .func { name := .ofString "patch", qualname := .ofString "CodeBuffer.patch", params := a11, body := .stmts b11, scope := c11, globals := 3, closure := [], defaults := .none, kwdefaults := .none, pyModule := .str (.ofString "moduleyard.codebuf") 307, code := .ref 118 } }) ::
    (nat_lit 120, { cls := .type "tuple", data := .seq #[] }) ::
    (nat_lit 122, { cls := .type "tuple", data := .seq #[.str (.ofString "self") 366, .str (.ofString "indexes") 367] }) ::
    (nat_lit 123, { cls := .type "tuple", data := .seq #[] }) ::
    (nat_lit 125, { cls := .type "code", data := .fields #[.str (.ofString "patch_here") 363, .str (.ofString "CodeBuffer.patch_here") 364, .str (.ofString "/claim/cut.py") 365, .int 95 0, .int 2 0, .int 0 0, .int 0 0, .int 3 0, .ref 120, .bool true, .int 181 0, .ref 121, .none, .ref 122, .ref 123, .ref 124, .int 368 0, .int 95 0, .str (.ofString "/claim/cut.py") 369] }) ::
    (nat_lit 126, { cls := .type "function", data := .func { name := .ofString "patch_here", qualname := .ofString "CodeBuffer.patch_here", params := a12, body := .stmts b12, scope := c12, globals := 3, closure := [], defaults := .none, kwdefaults := .none, pyModule := .str (.ofString "moduleyard.codebuf") 307, code := .ref 125 } }) ::
    (nat_lit 127, { cls := .type "tuple", data := .seq #[] }) ::
    (nat_lit 129, { cls := .type "tuple", data := .seq #[.str (.ofString "self") 374, .str (.ofString "cond") 375, .str (.ofString "target") 376] }) ::
    (nat_lit 130, { cls := .type "tuple", data := .seq #[] }) ::
    (nat_lit 132, { cls := .type "code", data := .fields #[.str (.ofString "back") 371, .str (.ofString "CodeBuffer.back") 372, .str (.ofString "/claim/cut.py") 373, .int 98 0, .int 3 0, .int 0 0, .int 0 0, .int 3 0, .ref 127, .bool true, .int 181 0, .ref 128, .none, .ref 129, .ref 130, .ref 131, .int 377 0, .int 98 0, .str (.ofString "/claim/cut.py") 378] }) ::
    (nat_lit 133, { cls := .type "function", data := .func { name := .ofString "back", qualname := .ofString "CodeBuffer.back", params := a13, body := .stmts b13, scope := c13, globals := 3, closure := [], defaults := .none, kwdefaults := .none, pyModule := .str (.ofString "moduleyard.codebuf") 307, code := .ref 132 } }) ::
    (nat_lit 134, { cls := .type "tuple", data := .seq #[] }) ::
    (nat_lit 136, { cls := .type "tuple", data := .seq #[.str (.ofString "self") 383, .str (.ofString "index") 384, .str (.ofString "value") 385, .str (.ofString "name") 386, .str (.ofString "a") 387, .str (.ofString "b") 388, .str (.ofString "last") 389] }) ::
    (nat_lit 137, { cls := .type "tuple", data := .seq #[] }) ::
    (nat_lit 139, { cls := .type "code", data := .fields #[.str (.ofString "set_last") 380, .str (.ofString "CodeBuffer.set_last") 381, .str (.ofString "/claim/cut.py") 382, .int 101 0, .int 3 0, .int 0 0, .int 0 0, .int 3 0, .ref 134, .bool true, .int 181 0, .ref 135, .none, .ref 136, .ref 137, .ref 138, .int 390 0, .int 101 0, .str (.ofString "/claim/cut.py") 391] }) ::
    (nat_lit 140, { cls := .type "function", data := .func { name := .ofString "set_last", qualname := .ofString "CodeBuffer.set_last", params := a14, body := .stmts b14, scope := c14, globals := 3, closure := [], defaults := .none, kwdefaults := .none, pyModule := .str (.ofString "moduleyard.codebuf") 307, code := .ref 139 } }) ::
    (nat_lit 141, { cls := .type "tuple", data := .seq #[.str (.ofString "rows") 393] }) ::
    (nat_lit 142, { cls := .type "dict", data := .dict #[{ hash := PyData.keyHash P (.ofString "__module__"), key := .str (.ofString "__module__") 316, val := .str (.ofString "moduleyard.codebuf") 307 }, { hash := PyData.keyHash P (.ofString "__firstlineno__"), key := .str (.ofString "__firstlineno__") 320, val := .int 77 319 }, { hash := PyData.keyHash P (.ofString "__init__"), key := .str (.ofString "__init__") 327, val := .ref 91 }, { hash := PyData.keyHash P (.ofString "put"), key := .str (.ofString "put") 338, val := .ref 98 }, { hash := PyData.keyHash P (.ofString "here"), key := .str (.ofString "here") 345, val := .ref 105 }, { hash := PyData.keyHash P (.ofString "jump"), key := .str (.ofString "jump") 353, val := .ref 112 }, { hash := PyData.keyHash P (.ofString "patch"), key := .str (.ofString "patch") 362, val := .ref 119 }, { hash := PyData.keyHash P (.ofString "patch_here"), key := .str (.ofString "patch_here") 370, val := .ref 126 }, { hash := PyData.keyHash P (.ofString "back"), key := .str (.ofString "back") 379, val := .ref 133 }, { hash := PyData.keyHash P (.ofString "set_last"), key := .str (.ofString "set_last") 392, val := .ref 140 }, { hash := PyData.keyHash P (.ofString "__static_attributes__"), key := .str (.ofString "__static_attributes__") 394, val := .ref 141 }, { hash := PyData.keyHash P (.ofString "__dict__"), key := .str (.ofString "__dict__") 396, val := .ref 144 }, { hash := PyData.keyHash P (.ofString "__weakref__"), key := .str (.ofString "__weakref__") 398, val := .ref 145 }, { hash := PyData.keyHash P (.ofString "__doc__"), key := .str (.ofString "__doc__") 399, val := .none }] 4 }) ::
    (nat_lit 143, { cls := .type "type", data := .cls { name := .ofString "CodeBuffer", bases := [.type "object"], mro := [.ref 143, .type "object"], ns := 142, qualname := .ofString "CodeBuffer" }, slots := #[none, none, some (.str (.ofString "CodeBuffer") 309), some (.str (.ofString "CodeBuffer") 317), some (.builtin "object.__new__"), some (.bool true)] }) ::
    (nat_lit 144, { cls := .type "getset_descriptor", data := .fields #[.str (.ofString "__dict__") 395, .ref 143, .builtin "function.__dict__", .builtin "function.__dict__#set"] }) ::
    (nat_lit 145, { cls := .type "getset_descriptor", data := .fields #[.str (.ofString "__weakref__") 397, .ref 143, .builtin "ExceptionGroup.__weakref__", .none] }) ::
    (nat_lit 148, { cls := .type "tuple", data := .seq #[.type "Exception"] }) ::
    (nat_lit 155, { cls := .type "tuple", data := .seq #[] }) ::
    (nat_lit 156, { cls := .type "dict", data := .dict #[{ hash := PyData.keyHash P (.ofString "__module__"), key := .str (.ofString "__module__") 411, val := .str (.ofString "moduleyard.errors") 402 }, { hash := PyData.keyHash P (.ofString "__firstlineno__"), key := .str (.ofString "__firstlineno__") 415, val := .int 105 414 }, { hash := PyData.keyHash P (.ofString "__static_attributes__"), key := .str (.ofString "__static_attributes__") 416, val := .ref 155 }, { hash := PyData.keyHash P (.ofString "__weakref__"), key := .str (.ofString "__weakref__") 418, val := .ref 158 }, { hash := PyData.keyHash P (.ofString "__doc__"), key := .str (.ofString "__doc__") 419, val := .none }] 3 }) ::
    (nat_lit 157, { cls := .type "type", data := .cls { name := .ofString "YardError", bases := [.type "Exception"], mro := [.ref 157, .type "Exception", .type "BaseException", .type "object"], ns := 156, qualname := .ofString "YardError", subclasses := [.ref 177] }, slots := #[some (.ref 148), none, some (.str (.ofString "YardError") 404), some (.str (.ofString "YardError") 412), some (.builtin "Exception.__new__"), some (.bool true)] }) ::
    (nat_lit 158, { cls := .type "getset_descriptor", data := .fields #[.str (.ofString "__weakref__") 417, .ref 157, .builtin "ExceptionGroup.__weakref__", .none] }) ::
    (nat_lit 161, { cls := .type "tuple", data := .seq #[.ref 157] }) ::
    (nat_lit 168, { cls := .type "tuple", data := .seq #[] }) ::
    (nat_lit 170, { cls := .type "tuple", data := .seq #[.str (.ofString "self") 439, .str (.ofString "what") 440] }) ::
    (nat_lit 171, { cls := .type "tuple", data := .seq #[] }) ::
    (nat_lit 173, { cls := .type "code", data := .fields #[.str (.ofString "__init__") 436, .str (.ofString "BadRow.__init__") 437, .str (.ofString "/claim/cut.py") 438, .int 109 0, .int 2 0, .int 0 0, .int 0 0, .int 3 0, .ref 168, .bool true, .int 181 0, .ref 169, .none, .ref 170, .ref 171, .ref 172, .int 441 0, .int 109 0, .str (.ofString "/claim/cut.py") 442] }) ::
    (nat_lit 174, { cls := .type "function", data := .func { name := .ofString "__init__", qualname := .ofString "BadRow.__init__", params := a15, body := .stmts b15, scope := c15, globals := 3, closure := [], defaults := .none, kwdefaults := .none, pyModule := .str (.ofString "moduleyard.errors") 402, code := .ref 173 } }) ::
    (nat_lit 175, { cls := .type "tuple", data := .seq #[.str (.ofString "what") 444] }) ::
    (nat_lit 176, { cls := .type "dict", data := .dict #[{ hash := PyData.keyHash P (.ofString "__module__"), key := .str (.ofString "__module__") 431, val := .str (.ofString "moduleyard.errors") 402 }, { hash := PyData.keyHash P (.ofString "__firstlineno__"), key := .str (.ofString "__firstlineno__") 435, val := .int 107 434 }, { hash := PyData.keyHash P (.ofString "__init__"), key := .str (.ofString "__init__") 443, val := .ref 174 }, { hash := PyData.keyHash P (.ofString "__static_attributes__"), key := .str (.ofString "__static_attributes__") 445, val := .ref 175 }, { hash := PyData.keyHash P (.ofString "__doc__"), key := .str (.ofString "__doc__") 446, val := .none }] 2 }) ::
    (nat_lit 177, { cls := .type "type", data := .cls { name := .ofString "BadRow", bases := [.ref 157], mro := [.ref 177, .ref 157, .type "Exception", .type "BaseException", .type "object"], ns := 176, qualname := .ofString "BadRow" }, slots := #[some (.ref 161), none, some (.str (.ofString "BadRow") 424), some (.str (.ofString "BadRow") 432), some (.builtin "Exception.__new__"), some (.bool true)] }) ::
    (nat_lit 187, { cls := .type "tuple", data := .seq #[] }) ::
    (nat_lit 189, { cls := .type "tuple", data := .seq #[.str (.ofString "self") 466, .str (.ofString "count") 467] }) ::
    (nat_lit 190, { cls := .type "tuple", data := .seq #[] }) ::
    (nat_lit 192, { cls := .type "code", data := .fields #[.str (.ofString "__init__") 463, .str (.ofString "RegisterPool.__init__") 464, .str (.ofString "/claim/cut.py") 465, .int 114 0, .int 2 0, .int 0 0, .int 0 0, .int 3 0, .ref 187, .bool true, .int 181 0, .ref 188, .none, .ref 189, .ref 190, .ref 191, .int 468 0, .int 114 0, .str (.ofString "/claim/cut.py") 469] }) ::
    (nat_lit 193, { cls := .type "function", data := .func { name := .ofString "__init__", qualname := .ofString "RegisterPool.__init__", params := a16, body := .stmts b16, scope := c16, globals := 3, closure := [], defaults := .none, kwdefaults := .none, pyModule := .str (.ofString "moduleyard.registers") 449, code := .ref 192 } }) ::
    (nat_lit 194, { cls := .type "tuple", data := .seq #[] }) ::
    (nat_lit 196, { cls := .type "tuple", data := .seq #[.str (.ofString "self") 474, .str (.ofString "reg") 475] }) ::
    (nat_lit 197, { cls := .type "tuple", data := .seq #[] }) ::
    (nat_lit 199, { cls := .type "code", data := .fields #[.str (.ofString "free") 471, .str (.ofString "RegisterPool.free") 472, .str (.ofString "/claim/cut.py") 473, .int 120 0, .int 1 0, .int 0 0, .int 0 0, .int 3 0, .ref 194, .bool true, .int 181 0, .ref 195, .none, .ref 196, .ref 197, .ref 198, .int 476 0, .int 120 0, .str (.ofString "/claim/cut.py") 477] }) ::
    (nat_lit 200, { cls := .type "function", data := .func { name := .ofString "free", qualname := .ofString "RegisterPool.free", params := a17, body := .stmts b17, scope := c17, globals := 3, closure := [], defaults := .none, kwdefaults := .none, pyModule := .str (.ofString "moduleyard.registers") 449, code := .ref 199 } }) ::
    (nat_lit 201, { cls := .type "tuple", data := .seq #[] }) ::
    (nat_lit 203, { cls := .type "tuple", data := .seq #[.str (.ofString "self") 482, .str (.ofString "item") 483, .str (.ofString "reg") 484] }) ::
    (nat_lit 204, { cls := .type "tuple", data := .seq #[] }) ::
    (nat_lit 206, { cls := .type "code", data := .fields #[.str (.ofString "claim") 479, .str (.ofString "RegisterPool.claim") 480, .str (.ofString "/claim/cut.py") 481, .int 126 0, .int 3 0, .int 0 0, .int 0 0, .int 3 0, .ref 201, .bool true, .int 181 0, .ref 202, .none, .ref 203, .ref 204, .ref 205, .int 485 0, .int 126 0, .str (.ofString "/claim/cut.py") 486] }) ::
    (nat_lit 207, { cls := .type "function", data := .func { name := .ofString "claim", qualname := .ofString "RegisterPool.claim", params := a18, body := .stmts b18, scope := c18, globals := 3, closure := [], defaults := .none, kwdefaults := .none, pyModule := .str (.ofString "moduleyard.registers") 449, code := .ref 206 } }) ::
    (nat_lit 208, { cls := .type "tuple", data := .seq #[.none] }) ::
    (nat_lit 209, { cls := .type "tuple", data := .seq #[] }) ::
    (nat_lit 211, { cls := .type "tuple", data := .seq #[.str (.ofString "self") 491, .str (.ofString "item") 492, .str (.ofString "keep") 493, .str (.ofString "reg") 494] }) ::
    (nat_lit 212, { cls := .type "tuple", data := .seq #[] }) ::
    (nat_lit 214, { cls := .type "code", data := .fields #[.str (.ofString "take") 488, .str (.ofString "RegisterPool.take") 489, .str (.ofString "/claim/cut.py") 490, .int 134 0, .int 3 0, .int 0 0, .int 0 0, .int 3 0, .ref 209, .bool true, .int 181 0, .ref 210, .none, .ref 211, .ref 212, .ref 213, .int 495 0, .int 134 0, .str (.ofString "/claim/cut.py") 496] }) ::
    (nat_lit 215, { cls := .type "function", data := .func { name := .ofString "take", qualname := .ofString "RegisterPool.take", params := a19, body := .stmts b19, scope := c19, globals := 3, closure := [], defaults := .ref 208, kwdefaults := .none, pyModule := .str (.ofString "moduleyard.registers") 449, code := .ref 214 } }) ::
    (nat_lit 216, { cls := .type "tuple", data := .seq #[] }) ::
    (nat_lit 218, { cls := .type "tuple", data := .seq #[.str (.ofString "self") 501, .str (.ofString "keep") 502, .str (.ofString "kept") 503, .str (.ofString "item") 504, .str (.ofString "reg") 505] }) ::
    (nat_lit 219, { cls := .type "tuple", data := .seq #[] }) ::
    (nat_lit 221, { cls := .type "code", data := .fields #[.str (.ofString "victim") 498, .str (.ofString "RegisterPool.victim") 499, .str (.ofString "/claim/cut.py") 500, .int 141 0, .int 2 0, .int 0 0, .int 0 0, .int 3 0, .ref 216, .bool true, .int 181 0, .ref 217, .none, .ref 218, .ref 219, .ref 220, .int 506 0, .int 141 0, .str (.ofString "/claim/cut.py") 507] }) ::
    (nat_lit 222, { cls := .type "function", data := .func { name := .ofString "victim", qualname := .ofString "RegisterPool.victim", params := a20, body := .stmts b20, scope := c20, globals := 3, closure := [], defaults := .none, kwdefaults := .none, pyModule := .str (.ofString "moduleyard.registers") 449, code := .ref 221 } }) ::
    (nat_lit 223, { cls := .type "tuple", data := .seq #[] }) ::
    (nat_lit 225, { cls := .type "tuple", data := .seq #[.str (.ofString "self") 512, .str (.ofString "reg") 513] }) ::
    (nat_lit 226, { cls := .type "tuple", data := .seq #[] }) ::
    (nat_lit 228, { cls := .type "code", data := .fields #[.str (.ofString "give") 509, .str (.ofString "RegisterPool.give") 510, .str (.ofString "/claim/cut.py") 511, .int 151 0, .int 2 0, .int 0 0, .int 0 0, .int 3 0, .ref 223, .bool true, .int 181 0, .ref 224, .none, .ref 225, .ref 226, .ref 227, .int 514 0, .int 151 0, .str (.ofString "/claim/cut.py") 515] }) ::
    (nat_lit 229, { cls := .type "function", data := .func { name := .ofString "give", qualname := .ofString "RegisterPool.give", params := a21, body := .stmts b21, scope := c21, globals := 3, closure := [], defaults := .none, kwdefaults := .none, pyModule := .str (.ofString "moduleyard.registers") 449, code := .ref 228 } }) ::
    (nat_lit 230, { cls := .type "tuple", data := .seq #[] }) ::
    (nat_lit 233, { cls := .type "code", data := .fields #[.str (.ofString "held") 517, .str (.ofString "RegisterPool.held") 518, .str (.ofString "/claim/cut.py") 519, .int 156 0, .int 1 0, .int 0 0, .int 0 0, .int 3 0, .ref 230, .bool true, .int 181 0, .ref 231, .none, .none, .none, .ref 232, .int 520 0, .int 156 0, .str (.ofString "/claim/cut.py") 521] }) ::
    (nat_lit 234, { cls := .type "function", data := .func { name := .ofString "held", qualname := .ofString "RegisterPool.held", params := a22, body := .stmts b22, scope := c22, globals := 3, closure := [], defaults := .none, kwdefaults := .none, pyModule := .str (.ofString "moduleyard.registers") 449, code := .ref 233 } }) ::
    (nat_lit 235, { cls := .type "tuple", data := .seq #[.str (.ofString "count") 523, .str (.ofString "order") 524, .str (.ofString "owner") 525, .str (.ofString "spiller") 526] }) ::
    (nat_lit 236, { cls := .type "dict", data := .dict #[{ hash := PyData.keyHash P (.ofString "__module__"), key := .str (.ofString "__module__") 458, val := .str (.ofString "moduleyard.registers") 449 }, { hash := PyData.keyHash P (.ofString "__firstlineno__"), key := .str (.ofString "__firstlineno__") 462, val := .int 112 461 }, { hash := PyData.keyHash P (.ofString "__init__"), key := .str (.ofString "__init__") 470, val := .ref 193 }, { hash := PyData.keyHash P (.ofString "free"), key := .str (.ofString "free") 478, val := .ref 200 }, { hash := PyData.keyHash P (.ofString "claim"), key := .str (.ofString "claim") 487, val := .ref 207 }, { hash := PyData.keyHash P (.ofString "take"), key := .str (.ofString "take") 497, val := .ref 215 }, { hash := PyData.keyHash P (.ofString "victim"), key := .str (.ofString "victim") 508, val := .ref 222 }, { hash := PyData.keyHash P (.ofString "give"), key := .str (.ofString "give") 516, val := .ref 229 }, { hash := PyData.keyHash P (.ofString "held"), key := .str (.ofString "held") 522, val := .ref 234 }, { hash := PyData.keyHash P (.ofString "__static_attributes__"), key := .str (.ofString "__static_attributes__") 527, val := .ref 235 }, { hash := PyData.keyHash P (.ofString "__dict__"), key := .str (.ofString "__dict__") 529, val := .ref 238 }, { hash := PyData.keyHash P (.ofString "__weakref__"), key := .str (.ofString "__weakref__") 531, val := .ref 239 }, { hash := PyData.keyHash P (.ofString "__doc__"), key := .str (.ofString "__doc__") 532, val := .none }] 4 }) ::
    (nat_lit 237, { cls := .type "type", data := .cls { name := .ofString "RegisterPool", bases := [.type "object"], mro := [.ref 237, .type "object"], ns := 236, qualname := .ofString "RegisterPool" }, slots := #[none, none, some (.str (.ofString "RegisterPool") 451), some (.str (.ofString "RegisterPool") 459), some (.builtin "object.__new__"), some (.bool true)] }) ::
    (nat_lit 238, { cls := .type "getset_descriptor", data := .fields #[.str (.ofString "__dict__") 528, .ref 237, .builtin "function.__dict__", .builtin "function.__dict__#set"] }) ::
    (nat_lit 239, { cls := .type "getset_descriptor", data := .fields #[.str (.ofString "__weakref__") 530, .ref 237, .builtin "ExceptionGroup.__weakref__", .none] }) ::
    (nat_lit 249, { cls := .type "tuple", data := .seq #[] }) ::
    (nat_lit 251, { cls := .type "tuple", data := .seq #[.str (.ofString "self") 552, .str (.ofString "types") 553, .str (.ofString "module") 554, .str (.ofString "registers") 555] }) ::
    (nat_lit 252, { cls := .type "tuple", data := .seq #[] }) ::
    (nat_lit 254, { cls := .type "code", data := .fields #[.str (.ofString "__init__") 549, .str (.ofString "Coder.__init__") 550, .str (.ofString "/claim/cut.py") 551, .int 161 0, .int 4 0, .int 0 0, .int 0 0, .int 3 0, .ref 249, .bool true, .int 181 0, .ref 250, .none, .ref 251, .ref 252, .ref 253, .int 556 0, .int 161 0, .str (.ofString "/claim/cut.py") 557] }) ::
    (nat_lit 255, { cls := .type "function", data := .func { name := .ofString "__init__", qualname := .ofString "Coder.__init__", params := a23, body := .stmts b23, scope := c23, globals := 3, closure := [], defaults := .none, kwdefaults := .none, pyModule := .str (.ofString "moduleyard.coder") 535, code := .ref 254 } }) ::
    (nat_lit 256, { cls := .type "tuple", data := .seq #[] }) ::
    (nat_lit 258, { cls := .type "tuple", data := .seq #[.str (.ofString "self") 562, .str (.ofString "proc") 563, .str (.ofString "level") 564, .str (.ofString "locals_bytes") 565, .str (.ofString "roots") 566] }) ::
    (nat_lit 259, { cls := .type "tuple", data := .seq #[] }) ::
    (nat_lit 261, { cls := .type "code", data := .fields #[.str (.ofString "enter") 559, .str (.ofString "Coder.enter") 560, .str (.ofString "/claim/cut.py") 561, .int 184 0, .int 5 0, .int 0 0, .int 0 0, .int 3 0, .ref 256, .bool true, .int 181 0, .ref 257, .none, .ref 258, .ref 259, .ref 260, .int 567 0, .int 184 0, .str (.ofString "/claim/cut.py") 568] }) ::
    (nat_lit 262, { cls := .type "function", data := .func { name := .ofString "enter", qualname := .ofString "Coder.enter", params := a24, body := .stmts b24, scope := c24, globals := 3, closure := [], defaults := .none, kwdefaults := .none, pyModule := .str (.ofString "moduleyard.coder") 535, code := .ref 261 } }) ::
    (nat_lit 263, { cls := .type "tuple", data := .seq #[] }) ::
    (nat_lit 265, { cls := .type "tuple", data := .seq #[.str (.ofString "self") 573] }) ::
    (nat_lit 266, { cls := .type "tuple", data := .seq #[] }) ::
    (nat_lit 268, { cls := .type "code", data := .fields #[.str (.ofString "frame_size") 570, .str (.ofString "Coder.frame_size") 571, .str (.ofString "/claim/cut.py") 572, .int 194 0, .int 1 0, .int 0 0, .int 0 0, .int 3 0, .ref 263, .bool true, .int 181 0, .ref 264, .none, .ref 265, .ref 266, .ref 267, .int 574 0, .int 194 0, .str (.ofString "/claim/cut.py") 575] }) ::
    (nat_lit 269, { cls := .type "function", data := .func { name := .ofString "frame_size", qualname := .ofString "Coder.frame_size", params := a25, body := .stmts b25, scope := c25, globals := 3, closure := [], defaults := .none, kwdefaults := .none, pyModule := .str (.ofString "moduleyard.coder") 535, code := .ref 268 } }) ::
    (nat_lit 270, { cls := .type "tuple", data := .seq #[] }) ::
    (nat_lit 272, { cls := .type "tuple", data := .seq #[.str (.ofString "self") 580, .str (.ofString "words") 581] }) ::
    (nat_lit 273, { cls := .type "tuple", data := .seq #[] }) ::
    (nat_lit 275, { cls := .type "code", data := .fields #[.str (.ofString "reach_out") 577, .str (.ofString "Coder.reach_out") 578, .str (.ofString "/claim/cut.py") 579, .int 197 0, .int 2 0, .int 0 0, .int 0 0, .int 3 0, .ref 270, .bool true, .int 181 0, .ref 271, .none, .ref 272, .ref 273, .ref 274, .int 582 0, .int 197 0, .str (.ofString "/claim/cut.py") 583] }) ::
    (nat_lit 276, { cls := .type "function", data := .func { name := .ofString "reach_out", qualname := .ofString "Coder.reach_out", params := a26, body := .stmts b26, scope := c26, globals := 3, closure := [], defaults := .none, kwdefaults := .none, pyModule := .str (.ofString "moduleyard.coder") 535, code := .ref 275 } }) ::
    (nat_lit 277, { cls := .type "tuple", data := .seq #[] }) ::
    (nat_lit 279, { cls := .type "tuple", data := .seq #[.str (.ofString "self") 588] }) ::
    (nat_lit 280, { cls := .type "tuple", data := .seq #[] }) ::
    (nat_lit 282, { cls := .type "code", data := .fields #[.str (.ofString "temp") 585, .str (.ofString "Coder.temp") 586, .str (.ofString "/claim/cut.py") 587, .int 200 0, .int 1 0, .int 0 0, .int 0 0, .int 3 0, .ref 277, .bool true, .int 181 0, .ref 278, .none, .ref 279, .ref 280, .ref 281, .int 589 0, .int 200 0, .str (.ofString "/claim/cut.py") 590] }) ::
    (nat_lit 283, { cls := .type "function", data := .func { name := .ofString "temp", qualname := .ofString "Coder.temp", params := a27, body := .stmts b27, scope := c27, globals := 3, closure := [], defaults := .none, kwdefaults := .none, pyModule := .str (.ofString "moduleyard.coder") 535, code := .ref 282 } }) ::
    (nat_lit 284, { cls := .type "tuple", data := .seq #[] }) ::
    (nat_lit 286, { cls := .type "tuple", data := .seq #[.str (.ofString "self") 595, .str (.ofString "offset") 596] }) ::
    (nat_lit 287, { cls := .type "tuple", data := .seq #[] }) ::
    (nat_lit 289, { cls := .type "code", data := .fields #[.str (.ofString "free_temp") 592, .str (.ofString "Coder.free_temp") 593, .str (.ofString "/claim/cut.py") 594, .int 207 0, .int 2 0, .int 0 0, .int 0 0, .int 3 0, .ref 284, .bool true, .int 181 0, .ref 285, .none, .ref 286, .ref 287, .ref 288, .int 597 0, .int 207 0, .str (.ofString "/claim/cut.py") 598] }) ::
    (nat_lit 290, { cls := .type "function", data := .func { name := .ofString "free_temp", qualname := .ofString "Coder.free_temp", params := a28, body := .stmts b28, scope := c28, globals := 3, closure := [], defaults := .none, kwdefaults := .none, pyModule := .str (.ofString "moduleyard.coder") 535, code := .ref 289 } }) ::
    (nat_lit 291, { cls := .type "tuple", data := .seq #[.none] }) ::
    (nat_lit 292, { cls := .type "tuple", data := .seq #[] }) ::
    (nat_lit 294, { cls := .type "tuple", data := .seq #[.str (.ofString "self") 603, .str (.ofString "item") 604, .str (.ofString "keep") 605] }) ::
    (nat_lit 295, { cls := .type "tuple", data := .seq #[] }) ::
    (nat_lit 297, { cls := .type "code", data := .fields #[.str (.ofString "take") 600, .str (.ofString "Coder.take") 601, .str (.ofString "/claim/cut.py") 602, .int 210 0, .int 3 0, .int 0 0, .int 0 0, .int 3 0, .ref 292, .bool true, .int 181 0, .ref 293, .none, .ref 294, .ref 295, .ref 296, .int 606 0, .int 210 0, .str (.ofString "/claim/cut.py") 607] }) ::
    (nat_lit 298, { cls := .type "function", data := .func { name := .ofString "take", qualname := .ofString "Coder.take", params := a29, body := .stmts b29, scope := c29, globals := 3, closure := [], defaults := .ref 291, kwdefaults := .none, pyModule := .str (.ofString "moduleyard.coder") 535, code := .ref 297 } }) ::
    (nat_lit 299, { cls := .type "tuple", data := .seq #[] }) ::
    (nat_lit 301, { cls := .type "tuple", data := .seq #[.str (.ofString "self") 612, .str (.ofString "item") 613, .str (.ofString "slot") 614] }) ::
    (nat_lit 302, { cls := .type "tuple", data := .seq #[] }) ::
    (nat_lit 304, { cls := .type "code", data := .fields #[.str (.ofString "spill") 609, .str (.ofString "Coder.spill") 610, .str (.ofString "/claim/cut.py") 611, .int 213 0, .int 2 0, .int 0 0, .int 0 0, .int 3 0, .ref 299, .bool true, .int 181 0, .ref 300, .none, .ref 301, .ref 302, .ref 303, .int 615 0, .int 213 0, .str (.ofString "/claim/cut.py") 616] }) ::
    (nat_lit 305, { cls := .type "function", data := .func { name := .ofString "spill", qualname := .ofString "Coder.spill", params := a30, body := .stmts b30, scope := c30, globals := 3, closure := [], defaults := .none, kwdefaults := .none, pyModule := .str (.ofString "moduleyard.coder") 535, code := .ref 304 } }) ::
    (nat_lit 306, { cls := .type "tuple", data := .seq #[] }) ::
    (nat_lit 308, { cls := .type "tuple", data := .seq #[.str (.ofString "self") 621] }) ::
    (nat_lit 309, { cls := .type "tuple", data := .seq #[] }) ::
    (nat_lit 311, { cls := .type "code", data := .fields #[.str (.ofString "spill_all") 618, .str (.ofString "Coder.spill_all") 619, .str (.ofString "/claim/cut.py") 620, .int 223 0, .int 1 0, .int 0 0, .int 0 0, .int 3 0, .ref 306, .bool true, .int 181 0, .ref 307, .none, .ref 308, .ref 309, .ref 310, .int 622 0, .int 223 0, .str (.ofString "/claim/cut.py") 623] }) ::
    (nat_lit 312, { cls := .type "function", data := .func { name := .ofString "spill_all", qualname := .ofString "Coder.spill_all", params := a31, body := .stmts b31, scope := c31, globals := 3, closure := [], defaults := .none, kwdefaults := .none, pyModule := .str (.ofString "moduleyard.coder") 535, code := .ref 311 } }) ::
    (nat_lit 313, { cls := .type "tuple", data := .seq #[.none] }) ::
    (nat_lit 314, { cls := .type "tuple", data := .seq #[] }) ::
    (nat_lit 316, { cls := .type "tuple", data := .seq #[.str (.ofString "self") 628, .str (.ofString "item") 629, .str (.ofString "keep") 630] }) ::
    (nat_lit 317, { cls := .type "tuple", data := .seq #[] }) ::
    (nat_lit 319, { cls := .type "code", data := .fields #[.str (.ofString "unspill") 625, .str (.ofString "Coder.unspill") 626, .str (.ofString "/claim/cut.py") 627, .int 226 0, .int 3 0, .int 0 0, .int 0 0, .int 3 0, .ref 314, .bool true, .int 181 0, .ref 315, .none, .ref 316, .ref 317, .ref 318, .int 631 0, .int 226 0, .str (.ofString "/claim/cut.py") 632] }) ::
    (nat_lit 320, { cls := .type "function", data := .func { name := .ofString "unspill", qualname := .ofString "Coder.unspill", params := a32, body := .stmts b32, scope := c32, globals := 3, closure := [], defaults := .ref 313, kwdefaults := .none, pyModule := .str (.ofString "moduleyard.coder") 535, code := .ref 319 } }) ::
    (nat_lit 321, { cls := .type "tuple", data := .seq #[] }) ::
    (nat_lit 323, { cls := .type "tuple", data := .seq #[.str (.ofString "self") 637, .str (.ofString "item") 638] }) ::
    (nat_lit 324, { cls := .type "tuple", data := .seq #[] }) ::
    (nat_lit 326, { cls := .type "code", data := .fields #[.str (.ofString "release") 634, .str (.ofString "Coder.release") 635, .str (.ofString "/claim/cut.py") 636, .int 229 0, .int 2 0, .int 0 0, .int 0 0, .int 3 0, .ref 321, .bool true, .int 181 0, .ref 322, .none, .ref 323, .ref 324, .ref 325, .int 639 0, .int 229 0, .str (.ofString "/claim/cut.py") 640] }) ::
    (nat_lit 327, { cls := .type "function", data := .func { name := .ofString "release", qualname := .ofString "Coder.release", params := a33, body := .stmts b33, scope := c33, globals := 3, closure := [], defaults := .none, kwdefaults := .none, pyModule := .str (.ofString "moduleyard.coder") 535, code := .ref 326 } }) ::
    (nat_lit 328, { cls := .type "tuple", data := .seq #[] }) ::
    (nat_lit 330, { cls := .type "tuple", data := .seq #[.str (.ofString "self") 645, .str (.ofString "cond") 646, .str (.ofString "number") 647, .str (.ofString "place") 648] }) ::
    (nat_lit 331, { cls := .type "tuple", data := .seq #[] }) ::
    (nat_lit 333, { cls := .type "code", data := .fields #[.str (.ofString "trap") 642, .str (.ofString "Coder.trap") 643, .str (.ofString "/claim/cut.py") 644, .int 237 0, .int 4 0, .int 0 0, .int 0 0, .int 3 0, .ref 328, .bool true, .int 181 0, .ref 329, .none, .ref 330, .ref 331, .ref 332, .int 649 0, .int 237 0, .str (.ofString "/claim/cut.py") 650] }) ::
    (nat_lit 334, { cls := .type "function", data := .func { name := .ofString "trap", qualname := .ofString "Coder.trap", params := a34, body := .stmts b34, scope := c34, globals := 3, closure := [], defaults := .none, kwdefaults := .none, pyModule := .str (.ofString "moduleyard.coder") 535, code := .ref 333 } }) ::
    (nat_lit 335, { cls := .type "tuple", data := .seq #[] }) ::
    (nat_lit 337, { cls := .type "tuple", data := .seq #[.str (.ofString "self") 655, .str (.ofString "row") 656] }) ::
    (nat_lit 338, { cls := .type "tuple", data := .seq #[] }) ::
    (nat_lit 340, { cls := .type "code", data := .fields #[.str (.ofString "note_map") 652, .str (.ofString "Coder.note_map") 653, .str (.ofString "/claim/cut.py") 654, .int 240 0, .int 2 0, .int 0 0, .int 0 0, .int 3 0, .ref 335, .bool true, .int 181 0, .ref 336, .none, .ref 337, .ref 338, .ref 339, .int 657 0, .int 240 0, .str (.ofString "/claim/cut.py") 658] }) ::
    (nat_lit 341, { cls := .type "function", data := .func { name := .ofString "note_map", qualname := .ofString "Coder.note_map", params := a35, body := .stmts b35, scope := c35, globals := 3, closure := [], defaults := .none, kwdefaults := .none, pyModule := .str (.ofString "moduleyard.coder") 535, code := .ref 340 } }) ::
    (nat_lit 342, { cls := .type "tuple", data := .seq #[] }) ::
    (nat_lit 344, { cls := .type "tuple", data := .seq #[.str (.ofString "self") 663, .str (.ofString "module") 664] }) ::
    (nat_lit 345, { cls := .type "tuple", data := .seq #[] }) ::
    (nat_lit 347, { cls := .type "code", data := .fields #[.str (.ofString "import_index") 660, .str (.ofString "Coder.import_index") 661, .str (.ofString "/claim/cut.py") 662, .int 243 0, .int 2 0, .int 0 0, .int 0 0, .int 3 0, .ref 342, .bool true, .int 181 0, .ref 343, .none, .ref 344, .ref 345, .ref 346, .int 665 0, .int 243 0, .str (.ofString "/claim/cut.py") 666] }) ::
    (nat_lit 348, { cls := .type "function", data := .func { name := .ofString "import_index", qualname := .ofString "Coder.import_index", params := a36, body := .stmts b36, scope := c36, globals := 3, closure := [], defaults := .none, kwdefaults := .none, pyModule := .str (.ofString "moduleyard.coder") 535, code := .ref 347 } }) ::
    (nat_lit 349, { cls := .type "tuple", data := .seq #[] }) ::
    (nat_lit 351, { cls := .type "tuple", data := .seq #[.str (.ofString "self") 671, .str (.ofString "kind") 672, .str (.ofString "module") 673, .str (.ofString "entry") 674] }) ::
    (nat_lit 352, { cls := .type "tuple", data := .seq #[] }) ::
    (nat_lit 354, { cls := .type "code", data := .fields #[.str (.ofString "fix") 668, .str (.ofString "Coder.fix") 669, .str (.ofString "/claim/cut.py") 670, .int 246 0, .int 4 0, .int 0 0, .int 0 0, .int 3 0, .ref 349, .bool true, .int 181 0, .ref 350, .none, .ref 351, .ref 352, .ref 353, .int 675 0, .int 246 0, .str (.ofString "/claim/cut.py") 676] }) ::
    (nat_lit 355, { cls := .type "function", data := .func { name := .ofString "fix", qualname := .ofString "Coder.fix", params := a37, body := .stmts b37, scope := c37, globals := 3, closure := [], defaults := .none, kwdefaults := .none, pyModule := .str (.ofString "moduleyard.coder") 535, code := .ref 354 } }) ::
    (nat_lit 356, { cls := .type "tuple", data := .seq #[] }) ::
    (nat_lit 358, { cls := .type "tuple", data := .seq #[.str (.ofString "self") 681, .str (.ofString "obj") 682] }) ::
    (nat_lit 359, { cls := .type "tuple", data := .seq #[] }) ::
    (nat_lit 361, { cls := .type "code", data := .fields #[.str (.ofString "call_own") 678, .str (.ofString "Coder.call_own") 679, .str (.ofString "/claim/cut.py") 680, .int 249 0, .int 2 0, .int 0 0, .int 0 0, .int 3 0, .ref 356, .bool true, .int 181 0, .ref 357, .none, .ref 358, .ref 359, .ref 360, .int 683 0, .int 249 0, .str (.ofString "/claim/cut.py") 684] }) ::
    (nat_lit 362, { cls := .type "function", data := .func { name := .ofString "call_own", qualname := .ofString "Coder.call_own", params := a38, body := .stmts b38, scope := c38, globals := 3, closure := [], defaults := .none, kwdefaults := .none, pyModule := .str (.ofString "moduleyard.coder") 535, code := .ref 361 } }) ::
    (nat_lit 363, { cls := .type "tuple", data := .seq #[] }) ::
    (nat_lit 365, { cls := .type "tuple", data := .seq #[.str (.ofString "self") 689, .str (.ofString "obj") 690] }) ::
    (nat_lit 366, { cls := .type "tuple", data := .seq #[] }) ::
    (nat_lit 368, { cls := .type "code", data := .fields #[.str (.ofString "call_import") 686, .str (.ofString "Coder.call_import") 687, .str (.ofString "/claim/cut.py") 688, .int 252 0, .int 2 0, .int 0 0, .int 0 0, .int 3 0, .ref 363, .bool true, .int 181 0, .ref 364, .none, .ref 365, .ref 366, .ref 367, .int 691 0, .int 252 0, .str (.ofString "/claim/cut.py") 692] }) ::
    (nat_lit 369, { cls := .type "function", data := .func { name := .ofString "call_import", qualname := .ofString "Coder.call_import", params := a39, body := .stmts b39, scope := c39, globals := 3, closure := [], defaults := .none, kwdefaults := .none, pyModule := .str (.ofString "moduleyard.coder") 535, code := .ref 368 } }) ::
    (nat_lit 370, { cls := .type "tuple", data := .seq #[] }) ::
    (nat_lit 372, { cls := .type "tuple", data := .seq #[.str (.ofString "self") 697, .str (.ofString "obj") 698, .str (.ofString "reg") 699] }) ::
    (nat_lit 373, { cls := .type "tuple", data := .seq #[] }) ::
    (nat_lit 375, { cls := .type "code", data := .fields #[.str (.ofString "address_of_proc") 694, .str (.ofString "Coder.address_of_proc") 695, .str (.ofString "/claim/cut.py") 696, .int 255 0, .int 3 0, .int 0 0, .int 0 0, .int 3 0, .ref 370, .bool true, .int 181 0, .ref 371, .none, .ref 372, .ref 373, .ref 374, .int 700 0, .int 255 0, .str (.ofString "/claim/cut.py") 701] }) ::
    (nat_lit 376, { cls := .type "function", data := .func { name := .ofString "address_of_proc", qualname := .ofString "Coder.address_of_proc", params := a40, body := .stmts b40, scope := c40, globals := 3, closure := [], defaults := .none, kwdefaults := .none, pyModule := .str (.ofString "moduleyard.coder") 535, code := .ref 375 } }) ::
    (nat_lit 377, { cls := .type "tuple", data := .seq #[.str (.ofString "buf") 703, .str (.ofString "calls") 704, .str (.ofString "data") 705, .str (.ofString "entries") 706, .str (.ofString "fixups") 707, .str (.ofString "free_temps") 708, .str (.ofString "imports") 709, .str (.ofString "keys") 710, .str (.ofString "level") 711, .str (.ofString "low") 712, .str (.ofString "lowest") 713, .str (.ofString "maps") 714, .str (.ofString "module") 715, .str (.ofString "out_words") 716, .str (.ofString "pool") 717, .str (.ofString "proc") 718, .str (.ofString "roots") 719, .str (.ofString "spilled") 720, .str (.ofString "starts") 721, .str (.ofString "types") 722] }) ::
    (nat_lit 378, { cls := .type "dict", data := .dict #[{ hash := PyData.keyHash P (.ofString "__module__"), key := .str (.ofString "__module__") 544, val := .str (.ofString "moduleyard.coder") 535 }, { hash := PyData.keyHash P (.ofString "__firstlineno__"), key := .str (.ofString "__firstlineno__") 548, val := .int 159 547 }, { hash := PyData.keyHash P (.ofString "__init__"), key := .str (.ofString "__init__") 558, val := .ref 255 }, { hash := PyData.keyHash P (.ofString "enter"), key := .str (.ofString "enter") 569, val := .ref 262 }, { hash := PyData.keyHash P (.ofString "frame_size"), key := .str (.ofString "frame_size") 576, val := .ref 269 }, { hash := PyData.keyHash P (.ofString "reach_out"), key := .str (.ofString "reach_out") 584, val := .ref 276 }, { hash := PyData.keyHash P (.ofString "temp"), key := .str (.ofString "temp") 591, val := .ref 283 }, { hash := PyData.keyHash P (.ofString "free_temp"), key := .str (.ofString "free_temp") 599, val := .ref 290 }, { hash := PyData.keyHash P (.ofString "take"), key := .str (.ofString "take") 608, val := .ref 298 }, { hash := PyData.keyHash P (.ofString "spill"), key := .str (.ofString "spill") 617, val := .ref 305 }, { hash := PyData.keyHash P (.ofString "spill_all"), key := .str (.ofString "spill_all") 624, val := .ref 312 }, { hash := PyData.keyHash P (.ofString "unspill"), key := .str (.ofString "unspill") 633, val := .ref 320 }, { hash := PyData.keyHash P (.ofString "release"), key := .str (.ofString "release") 641, val := .ref 327 }, { hash := PyData.keyHash P (.ofString "trap"), key := .str (.ofString "trap") 651, val := .ref 334 }, { hash := PyData.keyHash P (.ofString "note_map"), key := .str (.ofString "note_map") 659, val := .ref 341 }, { hash := PyData.keyHash P (.ofString "import_index"), key := .str (.ofString "import_index") 667, val := .ref 348 }, { hash := PyData.keyHash P (.ofString "fix"), key := .str (.ofString "fix") 677, val := .ref 355 }, { hash := PyData.keyHash P (.ofString "call_own"), key := .str (.ofString "call_own") 685, val := .ref 362 }, { hash := PyData.keyHash P (.ofString "call_import"), key := .str (.ofString "call_import") 693, val := .ref 369 }, { hash := PyData.keyHash P (.ofString "address_of_proc"), key := .str (.ofString "address_of_proc") 702, val := .ref 376 }, { hash := PyData.keyHash P (.ofString "__static_attributes__"), key := .str (.ofString "__static_attributes__") 723, val := .ref 377 }, { hash := PyData.keyHash P (.ofString "__dict__"), key := .str (.ofString "__dict__") 725, val := .ref 380 }, { hash := PyData.keyHash P (.ofString "__weakref__"), key := .str (.ofString "__weakref__") 727, val := .ref 381 }, { hash := PyData.keyHash P (.ofString "__doc__"), key := .str (.ofString "__doc__") 728, val := .none }] 4 }) ::
    (nat_lit 379, { cls := .type "type", data := .cls { name := .ofString "Coder", bases := [.type "object"], mro := [.ref 379, .type "object"], ns := 378, qualname := .ofString "Coder" }, slots := #[none, none, some (.str (.ofString "Coder") 537), some (.str (.ofString "Coder") 545), some (.builtin "object.__new__"), some (.bool true)] }) ::
    (nat_lit 380, { cls := .type "getset_descriptor", data := .fields #[.str (.ofString "__dict__") 724, .ref 379, .builtin "function.__dict__", .builtin "function.__dict__#set"] }) ::
    (nat_lit 381, { cls := .type "getset_descriptor", data := .fields #[.str (.ofString "__weakref__") 726, .ref 379, .builtin "ExceptionGroup.__weakref__", .none] }) ::
    (nat_lit 391, { cls := .type "tuple", data := .seq #[] }) ::
    (nat_lit 393, { cls := .type "tuple", data := .seq #[.str (.ofString "self") 748, .str (.ofString "number") 749, .str (.ofString "form") 750, .str (.ofString "size") 751] }) ::
    (nat_lit 394, { cls := .type "tuple", data := .seq #[] }) ::
    (nat_lit 396, { cls := .type "code", data := .fields #[.str (.ofString "__init__") 745, .str (.ofString "Type.__init__") 746, .str (.ofString "/claim/cut.py") 747, .int 260 0, .int 4 0, .int 0 0, .int 0 0, .int 3 0, .ref 391, .bool true, .int 181 0, .ref 392, .none, .ref 393, .ref 394, .ref 395, .int 752 0, .int 260 0, .str (.ofString "/claim/cut.py") 753] }) ::
    (nat_lit 397, { cls := .type "function", data := .func { name := .ofString "__init__", qualname := .ofString "Type.__init__", params := a41, body := .stmts b41, scope := c41, globals := 3, closure := [], defaults := .none, kwdefaults := .none, pyModule := .str (.ofString "moduleyard.types") 731, code := .ref 396 } }) ::
    (nat_lit 398, { cls := .type "tuple", data := .seq #[.str (.ofString "base") 755, .str (.ofString "exno") 756, .str (.ofString "fields") 757, .str (.ofString "form") 758, .str (.ofString "hidden") 759, .str (.ofString "label") 760, .str (.ofString "length") 761, .str (.ofString "level") 762, .str (.ofString "module") 763, .str (.ofString "number") 764, .str (.ofString "params") 765, .str (.ofString "size") 766] }) ::
    (nat_lit 399, { cls := .type "dict", data := .dict #[{ hash := PyData.keyHash P (.ofString "__module__"), key := .str (.ofString "__module__") 740, val := .str (.ofString "moduleyard.types") 731 }, { hash := PyData.keyHash P (.ofString "__firstlineno__"), key := .str (.ofString "__firstlineno__") 744, val := .int 258 743 }, { hash := PyData.keyHash P (.ofString "__init__"), key := .str (.ofString "__init__") 754, val := .ref 397 }, { hash := PyData.keyHash P (.ofString "__static_attributes__"), key := .str (.ofString "__static_attributes__") 767, val := .ref 398 }, { hash := PyData.keyHash P (.ofString "__dict__"), key := .str (.ofString "__dict__") 769, val := .ref 401 }, { hash := PyData.keyHash P (.ofString "__weakref__"), key := .str (.ofString "__weakref__") 771, val := .ref 402 }, { hash := PyData.keyHash P (.ofString "__doc__"), key := .str (.ofString "__doc__") 772, val := .none }] 4 }) ::
    (nat_lit 400, { cls := .type "type", data := .cls { name := .ofString "Type", bases := [.type "object"], mro := [.ref 400, .type "object"], ns := 399, qualname := .ofString "Type" }, slots := #[none, none, some (.str (.ofString "Type") 733), some (.str (.ofString "Type") 741), some (.builtin "object.__new__"), some (.bool true)] }) ::
    (nat_lit 401, { cls := .type "getset_descriptor", data := .fields #[.str (.ofString "__dict__") 768, .ref 400, .builtin "function.__dict__", .builtin "function.__dict__#set"] }) ::
    (nat_lit 402, { cls := .type "getset_descriptor", data := .fields #[.str (.ofString "__weakref__") 770, .ref 400, .builtin "ExceptionGroup.__weakref__", .none] }) ::
    (nat_lit 412, { cls := .type "tuple", data := .seq #[] }) ::
    (nat_lit 414, { cls := .type "tuple", data := .seq #[.str (.ofString "self") 790] }) ::
    (nat_lit 415, { cls := .type "tuple", data := .seq #[] }) ::
    (nat_lit 417, { cls := .type "code", data := .fields #[.str (.ofString "__init__") 787, .str (.ofString "Types.__init__") 788, .str (.ofString "/claim/cut.py") 789, .int 275 0, .int 1 0, .int 0 0, .int 0 0, .int 3 0, .ref 412, .bool true, .int 181 0, .ref 413, .none, .ref 414, .ref 415, .ref 416, .int 791 0, .int 275 0, .str (.ofString "/claim/cut.py") 792] }) ::
    (nat_lit 418, { cls := .type "function", data := .func { name := .ofString "__init__", qualname := .ofString "Types.__init__", params := a42, body := .stmts b42, scope := c42, globals := 3, closure := [], defaults := .none, kwdefaults := .none, pyModule := .str (.ofString "moduleyard.types") 731, code := .ref 417 } }) ::
    (nat_lit 419, { cls := .type "tuple", data := .seq #[.str (.ofString "") 794, .str (.ofString "") 795] }) ::
    (nat_lit 420, { cls := .type "tuple", data := .seq #[] }) ::
    (nat_lit 422, { cls := .type "tuple", data := .seq #[.str (.ofString "self") 799, .str (.ofString "form") 800, .str (.ofString "size") 801, .str (.ofString "module") 802, .str (.ofString "label") 803, .str (.ofString "made") 804] }) ::
    (nat_lit 423, { cls := .type "tuple", data := .seq #[] }) ::
    (nat_lit 425, { cls := .type "code", data := .fields #[.str (.ofString "new") 796, .str (.ofString "Types.new") 797, .str (.ofString "/claim/cut.py") 798, .int 286 0, .int 5 0, .int 0 0, .int 0 0, .int 3 0, .ref 420, .bool true, .int 181 0, .ref 421, .none, .ref 422, .ref 423, .ref 424, .int 805 0, .int 286 0, .str (.ofString "/claim/cut.py") 806] }) ::
    (nat_lit 426, { cls := .type "function", data := .func { name := .ofString "new", qualname := .ofString "Types.new", params := a43, body := .stmts b43, scope := c43, globals := 3, closure := [], defaults := .ref 419, kwdefaults := .none, pyModule := .str (.ofString "moduleyard.types") 731, code := .ref 425 } }) ::
    (nat_lit 427, { cls := .type "tuple", data := .seq #[] }) ::
    (nat_lit 429, { cls := .type "tuple", data := .seq #[.str (.ofString "self") 811, .str (.ofString "length") 812, .str (.ofString "made") 813] }) ::
    (nat_lit 430, { cls := .type "tuple", data := .seq #[] }) ::
    (nat_lit 432, { cls := .type "code", data := .fields #[.str (.ofString "string") 808, .str (.ofString "Types.string") 809, .str (.ofString "/claim/cut.py") 810, .int 295 0, .int 2 0, .int 0 0, .int 0 0, .int 3 0, .ref 427, .bool true, .int 181 0, .ref 428, .none, .ref 429, .ref 430, .ref 431, .int 814 0, .int 295 0, .str (.ofString "/claim/cut.py") 815] }) ::
    (nat_lit 433, { cls := .type "function", data := .func { name := .ofString "string", qualname := .ofString "Types.string", params := a44, body := .stmts b44, scope := c44, globals := 3, closure := [], defaults := .none, kwdefaults := .none, pyModule := .str (.ofString "moduleyard.types") 731, code := .ref 432 } }) ::
    (nat_lit 434, { cls := .type "tuple", data := .seq #[.str (.ofString "boolean") 817, .str (.ofString "byte") 818, .str (.ofString "char") 819, .str (.ofString "counter") 820, .str (.ofString "integer") 821, .str (.ofString "known") 822, .str (.ofString "mask") 823, .str (.ofString "nil") 824, .str (.ofString "none") 825] }) ::
    (nat_lit 435, { cls := .type "dict", data := .dict #[{ hash := PyData.keyHash P (.ofString "__module__"), key := .str (.ofString "__module__") 782, val := .str (.ofString "moduleyard.types") 731 }, { hash := PyData.keyHash P (.ofString "__firstlineno__"), key := .str (.ofString "__firstlineno__") 786, val := .int 273 785 }, { hash := PyData.keyHash P (.ofString "__init__"), key := .str (.ofString "__init__") 793, val := .ref 418 }, { hash := PyData.keyHash P (.ofString "new"), key := .str (.ofString "new") 807, val := .ref 426 }, { hash := PyData.keyHash P (.ofString "string"), key := .str (.ofString "string") 816, val := .ref 433 }, { hash := PyData.keyHash P (.ofString "__static_attributes__"), key := .str (.ofString "__static_attributes__") 826, val := .ref 434 }, { hash := PyData.keyHash P (.ofString "__dict__"), key := .str (.ofString "__dict__") 828, val := .ref 437 }, { hash := PyData.keyHash P (.ofString "__weakref__"), key := .str (.ofString "__weakref__") 830, val := .ref 438 }, { hash := PyData.keyHash P (.ofString "__doc__"), key := .str (.ofString "__doc__") 831, val := .none }] 4 }) ::
    (nat_lit 436, { cls := .type "type", data := .cls { name := .ofString "Types", bases := [.type "object"], mro := [.ref 436, .type "object"], ns := 435, qualname := .ofString "Types" }, slots := #[none, none, some (.str (.ofString "Types") 775), some (.str (.ofString "Types") 783), some (.builtin "object.__new__"), some (.bool true)] }) ::
    (nat_lit 437, { cls := .type "getset_descriptor", data := .fields #[.str (.ofString "__dict__") 827, .ref 436, .builtin "function.__dict__", .builtin "function.__dict__#set"] }) ::
    (nat_lit 438, { cls := .type "getset_descriptor", data := .fields #[.str (.ofString "__weakref__") 829, .ref 436, .builtin "ExceptionGroup.__weakref__", .none] }) ::
    (nat_lit 441, { cls := .type "tuple", data := .seq #[] }) ::
    (nat_lit 443, { cls := .type "tuple", data := .seq #[.str (.ofString "script") 839, .str (.ofString "row") 840, .str (.ofString "cell") 841, .str (.ofString "twist") 842, .str (.ofString "one") 843] }) ::
    (nat_lit 444, { cls := .type "tuple", data := .seq #[] }) ::
    (nat_lit 446, { cls := .type "code", data := .fields #[.str (.ofString "_law_row_of") 836, .str (.ofString "_law_row_of") 837, .str (.ofString "/claim/cut.py") 838, .int 301 0, .int 1 0, .int 0 0, .int 0 0, .int 3 0, .ref 441, .bool true, .int 181 0, .ref 442, .none, .ref 443, .ref 444, .ref 445, .int 844 0, .int 301 0, .str (.ofString "/claim/cut.py") 845] }) ::
    (nat_lit 447, { cls := .type "function", data := .func { name := .ofString "_law_row_of", qualname := .ofString "_law_row_of", params := a45, body := .stmts b45, scope := c45, globals := 3, closure := [], defaults := .none, kwdefaults := .none, pyModule := .str (.ofString "law_pq0756_01") 834, code := .ref 446 } }) ::
    (nat_lit 448, { cls := .type "tuple", data := .seq #[] }) ::
    (nat_lit 450, { cls := .type "tuple", data := .seq #[.str (.ofString "rows") 850, .str (.ofString "regs_of") 851, .str (.ofString "cells") 852, .str (.ofString "first") 853, .str (.ofString "last") 854, .str (.ofString "here") 855, .str (.ofString "zero") 856, .str (.ofString "turns") 857, .str (.ofString "name") 858, .str (.ofString "one") 859, .str (.ofString "two") 860, .str (.ofString "three") 861] }) ::
    (nat_lit 451, { cls := .type "tuple", data := .seq #[] }) ::
    (nat_lit 453, { cls := .type "code", data := .fields #[.str (.ofString "_law_walked") 847, .str (.ofString "_law_walked") 848, .str (.ofString "/claim/cut.py") 849, .int 312 0, .int 5 0, .int 0 0, .int 0 0, .int 3 0, .ref 448, .bool true, .int 181 0, .ref 449, .none, .ref 450, .ref 451, .ref 452, .int 862 0, .int 312 0, .str (.ofString "/claim/cut.py") 863] }) ::
    (nat_lit 454, { cls := .type "function", data := .func { name := .ofString "_law_walked", qualname := .ofString "_law_walked", params := a46, body := .stmts b46, scope := c46, globals := 3, closure := [], defaults := .none, kwdefaults := .none, pyModule := .str (.ofString "law_pq0756_01") 834, code := .ref 453 } }) ::
    (nat_lit 455, { cls := .type "tuple", data := .seq #[] }) ::
    (nat_lit 458, { cls := .type "code", data := .fields #[.str (.ofString "law") 865, .str (.ofString "law") 866, .str (.ofString "/claim/cut.py") 867, .int 344 0, .int 1 0, .int 0 0, .int 0 0, .int 3 0, .ref 455, .bool true, .int 181 0, .ref 456, .none, .none, .none, .ref 457, .int 868 0, .int 344 0, .str (.ofString "/claim/cut.py") 869] }) ::
    (nat_lit 459, { cls := .type "function", data := .func { name := .ofString "law", qualname := .ofString "law", params := a47, body := .stmts b47, scope := c47, globals := 3, closure := [], defaults := .none, kwdefaults := .none, pyModule := .str (.ofString "law_pq0756_01") 834, code := .ref 458 } }) :: []
  case h0 => exact rfl
  case h1 => exact rfl
  case h2 => exact rfl
  case h3 => exact rfl
  case h4 => exact rfl
  case h5 => exact rfl
  case h6 => exact rfl
  case h7 => exact rfl
  case h8 => exact rfl
  case h9 => exact rfl
  case h10 => exact rfl
  case h11 => exact rfl
  case h12 => exact rfl
  case h13 => exact rfl
  case h14 => exact rfl
  case h15 => exact rfl
  case h16 => exact rfl
  case h17 => exact rfl
  case h18 => exact rfl
  case h19 => exact rfl
  case h20 => exact rfl
  case h21 => exact rfl
  case h22 => exact rfl
  case h23 => exact rfl
  case h24 => exact rfl
  case h25 => exact rfl
  case h26 => exact rfl
  case h27 => exact rfl
  case h28 => exact rfl
  case h29 => exact rfl
  case h30 => exact rfl
  case h31 => exact rfl
  case h32 => exact rfl
  case h33 => exact rfl
  case h34 => exact rfl
  case h35 => exact rfl
  case h36 => exact rfl
  case h37 => exact rfl
  case h38 => exact rfl
  case h39 => exact rfl
  case h40 => exact rfl
  case h41 => exact rfl
  case h42 => exact rfl
  case h43 => exact rfl
  case h44 => exact rfl
  case h45 => exact rfl
  case h46 => exact rfl
  case h47 => exact rfl
noncomputable def hd.view_39 : Program := by
  refine' (?f : (s0 : Stmt) → cellAt 0 = some s0 → (s2 : Stmt) → cellAt 2 = some s2 → (s3 : Stmt) → cellAt 3 = some s3 → (s4 : Stmt) → cellAt 4 = some s4 → (s5 : Stmt) → cellAt 5 = some s5 → (s6 : Stmt) → cellAt 6 = some s6 → (s7 : Stmt) → cellAt 7 = some s7 → (s8 : Stmt) → cellAt 8 = some s8 → (s10 : Stmt) → cellAt 10 = some s10 → (s12 : Stmt) → cellAt 12 = some s12 → (s13 : Stmt) → cellAt 13 = some s13 → (s15 : Stmt) → cellAt 15 = some s15 → (s16 : Stmt) → cellAt 16 = some s16 → (s18 : Stmt) → cellAt 18 = some s18 → (s20 : Stmt) → cellAt 20 = some s20 → (s21 : Stmt) → cellAt 21 = some s21 → (s23 : Stmt) → cellAt 23 = some s23 → (s25 : Stmt) → cellAt 25 = some s25 → (s27 : Stmt) → cellAt 27 = some s27 → (s28 : Stmt) → cellAt 28 = some s28 → (s30 : Stmt) → cellAt 30 = some s30 → (s31 : Stmt) → cellAt 31 = some s31 → (s32 : Stmt) → cellAt 32 = some s32 → Program) _ ?h0 _ ?h2 _ ?h3 _ ?h4 _ ?h5 _ ?h6 _ ?h7 _ ?h8 _ ?h10 _ ?h12 _ ?h13 _ ?h15 _ ?h16 _ ?h18 _ ?h20 _ ?h21 _ ?h23 _ ?h25 _ ?h27 _ ?h28 _ ?h30 _ ?h31 _ ?h32
  case f => exact fun s0 _ s2 _ s3 _ s4 _ s5 _ s6 _ s7 _ s8 _ s10 _ s12 _ s13 _ s15 _ s16 _ s18 _ s20 _ s21 _ s23 _ s25 _ s27 _ s28 _ s30 _ s31 _ s32 _ => { pr with main := { pr.main with body := [s0, s2, s3, s4, s5, s6, s7, s8, s10, s12, s13, s15, s16, s18, s20, s21, s23, s25, s27, s28, s30, s31, s32] } }
  case h0 => exact rfl
  case h2 => exact rfl
  case h3 => exact rfl
  case h4 => exact rfl
  case h5 => exact rfl
  case h6 => exact rfl
  case h7 => exact rfl
  case h8 => exact rfl
  case h10 => exact rfl
  case h12 => exact rfl
  case h13 => exact rfl
  case h15 => exact rfl
  case h16 => exact rfl
  case h18 => exact rfl
  case h20 => exact rfl
  case h21 => exact rfl
  case h23 => exact rfl
  case h25 => exact rfl
  case h27 => exact rfl
  case h28 => exact rfl
  case h30 => exact rfl
  case h31 => exact rfl
  case h32 => exact rfl
abbrev asK : List Nat := nat_lit 2 :: nat_lit 3 :: nat_lit 15 :: nat_lit 17 :: nat_lit 18 :: nat_lit 20 :: nat_lit 21 :: nat_lit 29 :: nat_lit 31 :: nat_lit 32 :: nat_lit 34 :: nat_lit 35 :: nat_lit 36 :: nat_lit 37 :: nat_lit 38 :: nat_lit 39 :: nat_lit 40 :: nat_lit 43 :: nat_lit 45 :: nat_lit 46 :: nat_lit 48 :: nat_lit 49 :: nat_lit 50 :: nat_lit 52 :: nat_lit 53 :: nat_lit 55 :: nat_lit 56 :: nat_lit 57 :: nat_lit 59 :: nat_lit 60 :: nat_lit 62 :: nat_lit 63 :: nat_lit 64 :: nat_lit 66 :: nat_lit 67 :: nat_lit 69 :: nat_lit 70 :: nat_lit 71 :: nat_lit 73 :: nat_lit 74 :: nat_lit 76 :: nat_lit 77 :: nat_lit 85 :: nat_lit 87 :: nat_lit 88 :: nat_lit 90 :: nat_lit 91 :: nat_lit 92 :: nat_lit 94 :: nat_lit 95 :: nat_lit 97 :: nat_lit 98 :: nat_lit 99 :: nat_lit 101 :: nat_lit 102 :: nat_lit 104 :: nat_lit 105 :: nat_lit 106 :: nat_lit 108 :: nat_lit 109 :: nat_lit 111 :: nat_lit 112 :: nat_lit 113 :: nat_lit 115 :: nat_lit 116 :: nat_lit 118 :: nat_lit 119 :: nat_lit 120 :: nat_lit 122 :: nat_lit 123 :: nat_lit 125 :: nat_lit 126 :: nat_lit 127 :: nat_lit 129 :: nat_lit 130 :: nat_lit 132 :: nat_lit 133 :: nat_lit 134 :: nat_lit 136 :: nat_lit 137 :: nat_lit 139 :: nat_lit 140 :: nat_lit 141 :: nat_lit 142 :: nat_lit 143 :: nat_lit 144 :: nat_lit 145 :: nat_lit 148 :: nat_lit 155 :: nat_lit 156 :: nat_lit 157 :: nat_lit 158 :: nat_lit 161 :: nat_lit 168 :: nat_lit 170 :: nat_lit 171 :: nat_lit 173 :: nat_lit 174 :: nat_lit 175 :: nat_lit 176 :: nat_lit 177 :: nat_lit 187 :: nat_lit 189 :: nat_lit 190 :: nat_lit 192 :: nat_lit 193 :: nat_lit 194 :: nat_lit 196 :: nat_lit 197 :: nat_lit 199 :: nat_lit 200 :: nat_lit 201 :: nat_lit 203 :: nat_lit 204 :: nat_lit 206 :: nat_lit 207 :: nat_lit 208 :: nat_lit 209 :: nat_lit 211 :: nat_lit 212 :: nat_lit 214 :: nat_lit 215 :: nat_lit 216 :: nat_lit 218 :: nat_lit 219 :: nat_lit 221 :: nat_lit 222 :: nat_lit 223 :: nat_lit 225 :: nat_lit 226 :: nat_lit 228 :: nat_lit 229 :: nat_lit 230 :: nat_lit 233 :: nat_lit 234 :: nat_lit 235 :: nat_lit 236 :: nat_lit 237 :: nat_lit 238 :: nat_lit 239 :: nat_lit 249 :: nat_lit 251 :: nat_lit 252 :: nat_lit 254 :: nat_lit 255 :: nat_lit 256 :: nat_lit 258 :: nat_lit 259 :: nat_lit 261 :: nat_lit 262 :: nat_lit 263 :: nat_lit 265 :: nat_lit 266 :: nat_lit 268 :: nat_lit 269 :: nat_lit 270 :: nat_lit 272 :: nat_lit 273 :: nat_lit 275 :: nat_lit 276 :: nat_lit 277 :: nat_lit 279 :: nat_lit 280 :: nat_lit 282 :: nat_lit 283 :: nat_lit 284 :: nat_lit 286 :: nat_lit 287 :: nat_lit 289 :: nat_lit 290 :: nat_lit 291 :: nat_lit 292 :: nat_lit 294 :: nat_lit 295 :: nat_lit 297 :: nat_lit 298 :: nat_lit 299 :: nat_lit 301 :: nat_lit 302 :: nat_lit 304 :: nat_lit 305 :: nat_lit 306 :: nat_lit 308 :: nat_lit 309 :: nat_lit 311 :: nat_lit 312 :: nat_lit 313 :: nat_lit 314 :: nat_lit 316 :: nat_lit 317 :: nat_lit 319 :: nat_lit 320 :: nat_lit 321 :: nat_lit 323 :: nat_lit 324 :: nat_lit 326 :: nat_lit 327 :: nat_lit 328 :: nat_lit 330 :: nat_lit 331 :: nat_lit 333 :: nat_lit 334 :: nat_lit 335 :: nat_lit 337 :: nat_lit 338 :: nat_lit 340 :: nat_lit 341 :: nat_lit 342 :: nat_lit 344 :: nat_lit 345 :: nat_lit 347 :: nat_lit 348 :: nat_lit 349 :: nat_lit 351 :: nat_lit 352 :: nat_lit 354 :: nat_lit 355 :: nat_lit 356 :: nat_lit 358 :: nat_lit 359 :: nat_lit 361 :: nat_lit 362 :: nat_lit 363 :: nat_lit 365 :: nat_lit 366 :: nat_lit 368 :: nat_lit 369 :: nat_lit 370 :: nat_lit 372 :: nat_lit 373 :: nat_lit 375 :: nat_lit 376 :: nat_lit 377 :: nat_lit 378 :: nat_lit 379 :: nat_lit 380 :: nat_lit 381 :: nat_lit 391 :: nat_lit 393 :: nat_lit 394 :: nat_lit 396 :: nat_lit 397 :: nat_lit 398 :: nat_lit 399 :: nat_lit 400 :: nat_lit 401 :: nat_lit 402 :: nat_lit 412 :: nat_lit 414 :: nat_lit 415 :: nat_lit 417 :: nat_lit 418 :: nat_lit 419 :: nat_lit 420 :: nat_lit 422 :: nat_lit 423 :: nat_lit 425 :: nat_lit 426 :: nat_lit 427 :: nat_lit 429 :: nat_lit 430 :: nat_lit 432 :: nat_lit 433 :: nat_lit 434 :: nat_lit 435 :: nat_lit 436 :: nat_lit 437 :: nat_lit 438 :: nat_lit 441 :: nat_lit 443 :: nat_lit 444 :: nat_lit 446 :: nat_lit 447 :: nat_lit 448 :: nat_lit 450 :: nat_lit 451 :: nat_lit 453 :: nat_lit 454 :: nat_lit 455 :: nat_lit 458 :: nat_lit 459 :: []
set_option maxHeartbeats 8000000
theorem pr_opening : opening pr = plainProg pr.main.scope.names := by kernel_rfl
theorem pr_fence (s : Shared) : fenceModules? pr s = some s := by kernel_rfl
theorem pr_open : ∀ w : World, (fencedOpening treeTable pr w 6758).map (fun s => (s.heap, s.gens, s.drawn, s.toks)) = some (boot_heap w.params, Array.mk [], boot_drawn, boot_toks) := boot_open pr_opening rfl pr_fence
theorem pr_size (w : World) : ((boot_heap w.params).isNs mainGlobals && (Array.mk [] : Array GenState).size == 0, (boot_heap w.params).objs.size, (boot_heap w.params).nsMap mainGlobals "__annotations__") = (true, 11, some (Value.ref 6)) := by kernel_rfl
abbrev rr : RowW := PySem.Challenge.rw_pq0756_01.row.toRowW
theorem asK_ok (P : Params) : asK = (hd.heap_39 P).map (·.1) := by kernel_rfl
noncomputable abbrev hkH : Hook := kHook hd.heap_39 asK asK_ok
/-- the objects that the walk never needs, in the order of their addresses; none: the bare twin of the def two addresses on -/
noncomputable def hd.gs (P : Params) : List (Option Obj) :=
  some (boot_o_0 P) ::
  some (boot_o_1 P) ::
  some (boot_o_4 P) ::
  some (boot_o_5 P) ::
  some (boot_o_6 P) ::
  some (boot_o_7 P) ::
  some (boot_o_8 P) ::
  some (boot_o_9 P) ::
  some (boot_o_10 P) ::
  some { cls := .type "tuple", data := .seq #[] } ::
  some { cls := .none, data := .fields #[.int 1 0, .int 0 0, .ref 20, .int 10 0, .int 0 0, .ref 27, .int 29 0, .int 0 0, .ref 48, .int 32 0, .int 0 0, .ref 55, .int 44 0, .int 0 0, .ref 62, .int 63 0, .int 0 0, .ref 69, .int 70 0, .int 0 0, .ref 76, .int 77 0, .int 0 0, .ref 83, .int 105 0, .int 0 0, .ref 153, .int 107 0, .int 0 0, .ref 166, .int 112 0, .int 0 0, .ref 185, .int 159 0, .int 0 0, .ref 247, .int 258 0, .int 0 0, .ref 389, .int 273 0, .int 0 0, .ref 410, .int 301 0, .int 0 0, .ref 446, .int 312 0, .int 0 0, .ref 453, .int 344 0, .int 0 0, .ref 458] } ::
  some { cls := .type "code", data := .fields #[.str (.ofString "<module>") 182, .str (.ofString "<module>") 183, .str (.ofString "/claim/cut.py") 184, .int 1 0, .int 0 0, .int 0 0, .int 0 0, .int 0 0, .ref 11, .bool false, .int 181 0, .ref 12, .none, .none, .none, .none, .int 185 0, .int 1 0, .str (.ofString "/claim/cut.py") 186] } ::
  some { cls := .type "frame", slots := #[some (.ref 13), some (.ref 3), some (.ref 3), none, some (.str (.ofString "__main__") 164), none, some (.ref 0)] } ::
  some { cls := .none, data := .fields #[] } ::
  none ::
  some { cls := .type "tuple", data := .seq #[] } ::
  some { cls := .type "builtin_function_or_method", data := .fields #[.builtin "type.__prepare__", .type "type"] } ::
  some { cls := .type "dict", data := .dict #[{ hash := PyData.keyHash P (.ofString "__module__"), key := .str (.ofString "__module__") 213, val := .str (.ofString "moduleyard.items") 194 }, { hash := PyData.keyHash P (.ofString "__qualname__"), key := .str (.ofString "__qualname__") 215, val := .str (.ofString "Item") 214 }, { hash := PyData.keyHash P (.ofString "__firstlineno__"), key := .str (.ofString "__firstlineno__") 217, val := .int 10 216 }, { hash := PyData.keyHash P (.ofString "__init__"), key := .str (.ofString "__init__") 226, val := .ref 35 }, { hash := PyData.keyHash P (.ofString "__static_attributes__"), key := .str (.ofString "__static_attributes__") 243, val := .ref 36 }] 5 } ::
  some { cls := .type "tuple", data := .seq #[] } ::
  some { cls := .none, data := .fields #[.int 12 0, .int 4 0, .ref 34] } ::
  some { cls := .type "code", data := .fields #[.str (.ofString "Item") 208, .str (.ofString "Item") 209, .str (.ofString "/claim/cut.py") 210, .int 10 0, .int 0 0, .int 0 0, .int 0 0, .int 0 0, .ref 25, .bool false, .int 181 0, .ref 26, .none, .none, .none, .none, .int 211 0, .int 10 0, .str (.ofString "/claim/cut.py") 212] } ::
  some { cls := .type "frame", slots := #[some (.ref 27), some (.ref 3), some (.ref 24), none, some (.str (.ofString "moduleyard.items") 194), none, some (.ref 0)] } ::
  some { cls := .none, data := .fields #[] } ::
  none ::
  some { cls := .type "super", data := .fields #[.ref 38, .ref 38, .ref 38] } ::
  some { cls := .type "builtin_function_or_method", data := .fields #[.builtin "object.__init_subclass__", .ref 38] } ::
  some { cls := .none, data := .fields #[] } ::
  none ::
  some { cls := .none, data := .fields #[] } ::
  none ::
  some { cls := .none, data := .fields #[] } ::
  none ::
  some { cls := .none, data := .fields #[] } ::
  none ::
  some { cls := .none, data := .fields #[] } ::
  none ::
  some { cls := .type "tuple", data := .seq #[] } ::
  some { cls := .type "builtin_function_or_method", data := .fields #[.builtin "type.__prepare__", .type "type"] } ::
  some { cls := .type "dict", data := .dict #[{ hash := PyData.keyHash P (.ofString "__module__"), key := .str (.ofString "__module__") 316, val := .str (.ofString "moduleyard.codebuf") 307 }, { hash := PyData.keyHash P (.ofString "__qualname__"), key := .str (.ofString "__qualname__") 318, val := .str (.ofString "CodeBuffer") 317 }, { hash := PyData.keyHash P (.ofString "__firstlineno__"), key := .str (.ofString "__firstlineno__") 320, val := .int 77 319 }, { hash := PyData.keyHash P (.ofString "__init__"), key := .str (.ofString "__init__") 327, val := .ref 91 }, { hash := PyData.keyHash P (.ofString "put"), key := .str (.ofString "put") 338, val := .ref 98 }, { hash := PyData.keyHash P (.ofString "here"), key := .str (.ofString "here") 345, val := .ref 105 }, { hash := PyData.keyHash P (.ofString "jump"), key := .str (.ofString "jump") 353, val := .ref 112 }, { hash := PyData.keyHash P (.ofString "patch"), key := .str (.ofString "patch") 362, val := .ref 119 }, { hash := PyData.keyHash P (.ofString "patch_here"), key := .str (.ofString "patch_here") 370, val := .ref 126 }, { hash := PyData.keyHash P (.ofString "back"), key := .str (.ofString "back") 379, val := .ref 133 }, { hash := PyData.keyHash P (.ofString "set_last"), key := .str (.ofString "set_last") 392, val := .ref 140 }, { hash := PyData.keyHash P (.ofString "__static_attributes__"), key := .str (.ofString "__static_attributes__") 394, val := .ref 141 }] 12 } ::
  some { cls := .type "tuple", data := .seq #[] } ::
  some { cls := .none, data := .fields #[.int 79 0, .int 4 0, .ref 90, .int 82 0, .int 4 0, .ref 97, .int 86 0, .int 4 0, .ref 104, .int 89 0, .int 4 0, .ref 111, .int 92 0, .int 4 0, .ref 118, .int 95 0, .int 4 0, .ref 125, .int 98 0, .int 4 0, .ref 132, .int 101 0, .int 4 0, .ref 139] } ::
  some { cls := .type "code", data := .fields #[.str (.ofString "CodeBuffer") 311, .str (.ofString "CodeBuffer") 312, .str (.ofString "/claim/cut.py") 313, .int 77 0, .int 0 0, .int 0 0, .int 0 0, .int 0 0, .ref 81, .bool false, .int 181 0, .ref 82, .none, .none, .none, .none, .int 314 0, .int 77 0, .str (.ofString "/claim/cut.py") 315] } ::
  some { cls := .type "frame", slots := #[some (.ref 83), some (.ref 3), some (.ref 80), none, some (.str (.ofString "moduleyard.codebuf") 307), none, some (.ref 0)] } ::
  some { cls := .none, data := .fields #[] } ::
  none ::
  some { cls := .none, data := .fields #[] } ::
  none ::
  some { cls := .none, data := .fields #[] } ::
  none ::
  some { cls := .none, data := .fields #[] } ::
  none ::
  some { cls := .none, data := .fields #[] } ::
  none ::
  some { cls := .none, data := .fields #[] } ::
  none ::
  some { cls := .none, data := .fields #[] } ::
  none ::
  some { cls := .none, data := .fields #[] } ::
  none ::
  some { cls := .type "super", data := .fields #[.ref 143, .ref 143, .ref 143] } ::
  some { cls := .type "builtin_function_or_method", data := .fields #[.builtin "object.__init_subclass__", .ref 143] } ::
  some { cls := .type "builtin_function_or_method", data := .fields #[.builtin "type.__prepare__", .type "type"] } ::
  some { cls := .type "dict", data := .dict #[{ hash := PyData.keyHash P (.ofString "__module__"), key := .str (.ofString "__module__") 411, val := .str (.ofString "moduleyard.errors") 402 }, { hash := PyData.keyHash P (.ofString "__qualname__"), key := .str (.ofString "__qualname__") 413, val := .str (.ofString "YardError") 412 }, { hash := PyData.keyHash P (.ofString "__firstlineno__"), key := .str (.ofString "__firstlineno__") 415, val := .int 105 414 }, { hash := PyData.keyHash P (.ofString "__static_attributes__"), key := .str (.ofString "__static_attributes__") 416, val := .ref 155 }] 4 } ::
  some { cls := .type "tuple", data := .seq #[] } ::
  some { cls := .none, data := .fields #[] } ::
  some { cls := .type "code", data := .fields #[.str (.ofString "YardError") 406, .str (.ofString "YardError") 407, .str (.ofString "/claim/cut.py") 408, .int 105 0, .int 0 0, .int 0 0, .int 0 0, .int 0 0, .ref 151, .bool false, .int 181 0, .ref 152, .none, .none, .none, .none, .int 409 0, .int 105 0, .str (.ofString "/claim/cut.py") 410] } ::
  some { cls := .type "frame", slots := #[some (.ref 153), some (.ref 3), some (.ref 150), none, some (.str (.ofString "moduleyard.errors") 402), none, some (.ref 0)] } ::
  some { cls := .type "super", data := .fields #[.ref 157, .ref 157, .ref 157] } ::
  some { cls := .type "builtin_function_or_method", data := .fields #[.builtin "object.__init_subclass__", .ref 157] } ::
  some { cls := .type "builtin_function_or_method", data := .fields #[.builtin "type.__prepare__", .type "type"] } ::
  some { cls := .type "dict", data := .dict #[{ hash := PyData.keyHash P (.ofString "__module__"), key := .str (.ofString "__module__") 431, val := .str (.ofString "moduleyard.errors") 402 }, { hash := PyData.keyHash P (.ofString "__qualname__"), key := .str (.ofString "__qualname__") 433, val := .str (.ofString "BadRow") 432 }, { hash := PyData.keyHash P (.ofString "__firstlineno__"), key := .str (.ofString "__firstlineno__") 435, val := .int 107 434 }, { hash := PyData.keyHash P (.ofString "__init__"), key := .str (.ofString "__init__") 443, val := .ref 174 }, { hash := PyData.keyHash P (.ofString "__static_attributes__"), key := .str (.ofString "__static_attributes__") 445, val := .ref 175 }] 5 } ::
  some { cls := .type "tuple", data := .seq #[] } ::
  some { cls := .none, data := .fields #[.int 109 0, .int 4 0, .ref 173] } ::
  some { cls := .type "code", data := .fields #[.str (.ofString "BadRow") 426, .str (.ofString "BadRow") 427, .str (.ofString "/claim/cut.py") 428, .int 107 0, .int 0 0, .int 0 0, .int 0 0, .int 0 0, .ref 164, .bool false, .int 181 0, .ref 165, .none, .none, .none, .none, .int 429 0, .int 107 0, .str (.ofString "/claim/cut.py") 430] } ::
  some { cls := .type "frame", slots := #[some (.ref 166), some (.ref 3), some (.ref 163), none, some (.str (.ofString "moduleyard.errors") 402), none, some (.ref 0)] } ::
  some { cls := .none, data := .fields #[] } ::
  none ::
  some { cls := .type "super", data := .fields #[.ref 177, .ref 177, .ref 177] } ::
  some { cls := .type "builtin_function_or_method", data := .fields #[.builtin "object.__init_subclass__", .ref 177] } ::
  some { cls := .type "tuple", data := .seq #[] } ::
  some { cls := .type "builtin_function_or_method", data := .fields #[.builtin "type.__prepare__", .type "type"] } ::
  some { cls := .type "dict", data := .dict #[{ hash := PyData.keyHash P (.ofString "__module__"), key := .str (.ofString "__module__") 458, val := .str (.ofString "moduleyard.registers") 449 }, { hash := PyData.keyHash P (.ofString "__qualname__"), key := .str (.ofString "__qualname__") 460, val := .str (.ofString "RegisterPool") 459 }, { hash := PyData.keyHash P (.ofString "__firstlineno__"), key := .str (.ofString "__firstlineno__") 462, val := .int 112 461 }, { hash := PyData.keyHash P (.ofString "__init__"), key := .str (.ofString "__init__") 470, val := .ref 193 }, { hash := PyData.keyHash P (.ofString "free"), key := .str (.ofString "free") 478, val := .ref 200 }, { hash := PyData.keyHash P (.ofString "claim"), key := .str (.ofString "claim") 487, val := .ref 207 }, { hash := PyData.keyHash P (.ofString "take"), key := .str (.ofString "take") 497, val := .ref 215 }, { hash := PyData.keyHash P (.ofString "victim"), key := .str (.ofString "victim") 508, val := .ref 222 }, { hash := PyData.keyHash P (.ofString "give"), key := .str (.ofString "give") 516, val := .ref 229 }, { hash := PyData.keyHash P (.ofString "held"), key := .str (.ofString "held") 522, val := .ref 234 }, { hash := PyData.keyHash P (.ofString "__static_attributes__"), key := .str (.ofString "__static_attributes__") 527, val := .ref 235 }] 11 } ::
  some { cls := .type "tuple", data := .seq #[] } ::
  some { cls := .none, data := .fields #[.int 114 0, .int 4 0, .ref 192, .int 120 0, .int 4 0, .ref 199, .int 126 0, .int 4 0, .ref 206, .int 134 0, .int 4 0, .ref 214, .int 141 0, .int 4 0, .ref 221, .int 151 0, .int 4 0, .ref 228, .int 156 0, .int 4 0, .ref 233] } ::
  some { cls := .type "code", data := .fields #[.str (.ofString "RegisterPool") 453, .str (.ofString "RegisterPool") 454, .str (.ofString "/claim/cut.py") 455, .int 112 0, .int 0 0, .int 0 0, .int 0 0, .int 0 0, .ref 183, .bool false, .int 181 0, .ref 184, .none, .none, .none, .none, .int 456 0, .int 112 0, .str (.ofString "/claim/cut.py") 457] } ::
  some { cls := .type "frame", slots := #[some (.ref 185), some (.ref 3), some (.ref 182), none, some (.str (.ofString "moduleyard.registers") 449), none, some (.ref 0)] } ::
  some { cls := .none, data := .fields #[] } ::
  none ::
  some { cls := .none, data := .fields #[] } ::
  none ::
  some { cls := .none, data := .fields #[] } ::
  none ::
  some { cls := .none, data := .fields #[] } ::
  none ::
  some { cls := .none, data := .fields #[] } ::
  none ::
  some { cls := .none, data := .fields #[] } ::
  none ::
  some { cls := .none, data := .fields #[] } ::
  none ::
  some { cls := .type "super", data := .fields #[.ref 237, .ref 237, .ref 237] } ::
  some { cls := .type "builtin_function_or_method", data := .fields #[.builtin "object.__init_subclass__", .ref 237] } ::
  some { cls := .type "tuple", data := .seq #[] } ::
  some { cls := .type "builtin_function_or_method", data := .fields #[.builtin "type.__prepare__", .type "type"] } ::
  some { cls := .type "dict", data := .dict #[{ hash := PyData.keyHash P (.ofString "__module__"), key := .str (.ofString "__module__") 544, val := .str (.ofString "moduleyard.coder") 535 }, { hash := PyData.keyHash P (.ofString "__qualname__"), key := .str (.ofString "__qualname__") 546, val := .str (.ofString "Coder") 545 }, { hash := PyData.keyHash P (.ofString "__firstlineno__"), key := .str (.ofString "__firstlineno__") 548, val := .int 159 547 }, { hash := PyData.keyHash P (.ofString "__init__"), key := .str (.ofString "__init__") 558, val := .ref 255 }, { hash := PyData.keyHash P (.ofString "enter"), key := .str (.ofString "enter") 569, val := .ref 262 }, { hash := PyData.keyHash P (.ofString "frame_size"), key := .str (.ofString "frame_size") 576, val := .ref 269 }, { hash := PyData.keyHash P (.ofString "reach_out"), key := .str (.ofString "reach_out") 584, val := .ref 276 }, { hash := PyData.keyHash P (.ofString "temp"), key := .str (.ofString "temp") 591, val := .ref 283 }, { hash := PyData.keyHash P (.ofString "free_temp"), key := .str (.ofString "free_temp") 599, val := .ref 290 }, { hash := PyData.keyHash P (.ofString "take"), key := .str (.ofString "take") 608, val := .ref 298 }, { hash := PyData.keyHash P (.ofString "spill"), key := .str (.ofString "spill") 617, val := .ref 305 }, { hash := PyData.keyHash P (.ofString "spill_all"), key := .str (.ofString "spill_all") 624, val := .ref 312 }, { hash := PyData.keyHash P (.ofString "unspill"), key := .str (.ofString "unspill") 633, val := .ref 320 }, { hash := PyData.keyHash P (.ofString "release"), key := .str (.ofString "release") 641, val := .ref 327 }, { hash := PyData.keyHash P (.ofString "trap"), key := .str (.ofString "trap") 651, val := .ref 334 }, { hash := PyData.keyHash P (.ofString "note_map"), key := .str (.ofString "note_map") 659, val := .ref 341 }, { hash := PyData.keyHash P (.ofString "import_index"), key := .str (.ofString "import_index") 667, val := .ref 348 }, { hash := PyData.keyHash P (.ofString "fix"), key := .str (.ofString "fix") 677, val := .ref 355 }, { hash := PyData.keyHash P (.ofString "call_own"), key := .str (.ofString "call_own") 685, val := .ref 362 }, { hash := PyData.keyHash P (.ofString "call_import"), key := .str (.ofString "call_import") 693, val := .ref 369 }, { hash := PyData.keyHash P (.ofString "address_of_proc"), key := .str (.ofString "address_of_proc") 702, val := .ref 376 }, { hash := PyData.keyHash P (.ofString "__static_attributes__"), key := .str (.ofString "__static_attributes__") 723, val := .ref 377 }] 22 } ::
  some { cls := .type "tuple", data := .seq #[] } ::
  some { cls := .none, data := .fields #[.int 161 0, .int 4 0, .ref 254, .int 184 0, .int 4 0, .ref 261, .int 194 0, .int 4 0, .ref 268, .int 197 0, .int 4 0, .ref 275, .int 200 0, .int 4 0, .ref 282, .int 207 0, .int 4 0, .ref 289, .int 210 0, .int 4 0, .ref 297, .int 213 0, .int 4 0, .ref 304, .int 223 0, .int 4 0, .ref 311, .int 226 0, .int 4 0, .ref 319, .int 229 0, .int 4 0, .ref 326, .int 237 0, .int 4 0, .ref 333, .int 240 0, .int 4 0, .ref 340, .int 243 0, .int 4 0, .ref 347, .int 246 0, .int 4 0, .ref 354, .int 249 0, .int 4 0, .ref 361, .int 252 0, .int 4 0, .ref 368, .int 255 0, .int 4 0, .ref 375] } ::
  some { cls := .type "code", data := .fields #[.str (.ofString "Coder") 539, .str (.ofString "Coder") 540, .str (.ofString "/claim/cut.py") 541, .int 159 0, .int 0 0, .int 0 0, .int 0 0, .int 0 0, .ref 245, .bool false, .int 181 0, .ref 246, .none, .none, .none, .none, .int 542 0, .int 159 0, .str (.ofString "/claim/cut.py") 543] } ::
  some { cls := .type "frame", slots := #[some (.ref 247), some (.ref 3), some (.ref 244), none, some (.str (.ofString "moduleyard.coder") 535), none, some (.ref 0)] } ::
  some { cls := .none, data := .fields #[] } ::
  none ::
  some { cls := .none, data := .fields #[] } ::
  none ::
  some { cls := .none, data := .fields #[] } ::
  none ::
  some { cls := .none, data := .fields #[] } ::
  none ::
  some { cls := .none, data := .fields #[] } ::
  none ::
  some { cls := .none, data := .fields #[] } ::
  none ::
  some { cls := .none, data := .fields #[] } ::
  none ::
  some { cls := .none, data := .fields #[] } ::
  none ::
  some { cls := .none, data := .fields #[] } ::
  none ::
  some { cls := .none, data := .fields #[] } ::
  none ::
  some { cls := .none, data := .fields #[] } ::
  none ::
  some { cls := .none, data := .fields #[] } ::
  none ::
  some { cls := .none, data := .fields #[] } ::
  none ::
  some { cls := .none, data := .fields #[] } ::
  none ::
  some { cls := .none, data := .fields #[] } ::
  none ::
  some { cls := .none, data := .fields #[] } ::
  none ::
  some { cls := .none, data := .fields #[] } ::
  none ::
  some { cls := .none, data := .fields #[] } ::
  none ::
  some { cls := .type "super", data := .fields #[.ref 379, .ref 379, .ref 379] } ::
  some { cls := .type "builtin_function_or_method", data := .fields #[.builtin "object.__init_subclass__", .ref 379] } ::
  some { cls := .type "tuple", data := .seq #[] } ::
  some { cls := .type "builtin_function_or_method", data := .fields #[.builtin "type.__prepare__", .type "type"] } ::
  some { cls := .type "dict", data := .dict #[{ hash := PyData.keyHash P (.ofString "__module__"), key := .str (.ofString "__module__") 740, val := .str (.ofString "moduleyard.types") 731 }, { hash := PyData.keyHash P (.ofString "__qualname__"), key := .str (.ofString "__qualname__") 742, val := .str (.ofString "Type") 741 }, { hash := PyData.keyHash P (.ofString "__firstlineno__"), key := .str (.ofString "__firstlineno__") 744, val := .int 258 743 }, { hash := PyData.keyHash P (.ofString "__init__"), key := .str (.ofString "__init__") 754, val := .ref 397 }, { hash := PyData.keyHash P (.ofString "__static_attributes__"), key := .str (.ofString "__static_attributes__") 767, val := .ref 398 }] 5 } ::
  some { cls := .type "tuple", data := .seq #[] } ::
  some { cls := .none, data := .fields #[.int 260 0, .int 4 0, .ref 396] } ::
  some { cls := .type "code", data := .fields #[.str (.ofString "Type") 735, .str (.ofString "Type") 736, .str (.ofString "/claim/cut.py") 737, .int 258 0, .int 0 0, .int 0 0, .int 0 0, .int 0 0, .ref 387, .bool false, .int 181 0, .ref 388, .none, .none, .none, .none, .int 738 0, .int 258 0, .str (.ofString "/claim/cut.py") 739] } ::
  some { cls := .type "frame", slots := #[some (.ref 389), some (.ref 3), some (.ref 386), none, some (.str (.ofString "moduleyard.types") 731), none, some (.ref 0)] } ::
  some { cls := .none, data := .fields #[] } ::
  none ::
  some { cls := .type "super", data := .fields #[.ref 400, .ref 400, .ref 400] } ::
  some { cls := .type "builtin_function_or_method", data := .fields #[.builtin "object.__init_subclass__", .ref 400] } ::
  some { cls := .type "tuple", data := .seq #[] } ::
  some { cls := .type "builtin_function_or_method", data := .fields #[.builtin "type.__prepare__", .type "type"] } ::
  some { cls := .type "dict", data := .dict #[{ hash := PyData.keyHash P (.ofString "__module__"), key := .str (.ofString "__module__") 782, val := .str (.ofString "moduleyard.types") 731 }, { hash := PyData.keyHash P (.ofString "__qualname__"), key := .str (.ofString "__qualname__") 784, val := .str (.ofString "Types") 783 }, { hash := PyData.keyHash P (.ofString "__firstlineno__"), key := .str (.ofString "__firstlineno__") 786, val := .int 273 785 }, { hash := PyData.keyHash P (.ofString "__init__"), key := .str (.ofString "__init__") 793, val := .ref 418 }, { hash := PyData.keyHash P (.ofString "new"), key := .str (.ofString "new") 807, val := .ref 426 }, { hash := PyData.keyHash P (.ofString "string"), key := .str (.ofString "string") 816, val := .ref 433 }, { hash := PyData.keyHash P (.ofString "__static_attributes__"), key := .str (.ofString "__static_attributes__") 826, val := .ref 434 }] 7 } ::
  some { cls := .type "tuple", data := .seq #[] } ::
  some { cls := .none, data := .fields #[.int 275 0, .int 4 0, .ref 417, .int 286 0, .int 4 0, .ref 425, .int 295 0, .int 4 0, .ref 432] } ::
  some { cls := .type "code", data := .fields #[.str (.ofString "Types") 777, .str (.ofString "Types") 778, .str (.ofString "/claim/cut.py") 779, .int 273 0, .int 0 0, .int 0 0, .int 0 0, .int 0 0, .ref 408, .bool false, .int 181 0, .ref 409, .none, .none, .none, .none, .int 780 0, .int 273 0, .str (.ofString "/claim/cut.py") 781] } ::
  some { cls := .type "frame", slots := #[some (.ref 410), some (.ref 3), some (.ref 407), none, some (.str (.ofString "moduleyard.types") 731), none, some (.ref 0)] } ::
  some { cls := .none, data := .fields #[] } ::
  none ::
  some { cls := .none, data := .fields #[] } ::
  none ::
  some { cls := .none, data := .fields #[] } ::
  none ::
  some { cls := .type "super", data := .fields #[.ref 436, .ref 436, .ref 436] } ::
  some { cls := .type "builtin_function_or_method", data := .fields #[.builtin "object.__init_subclass__", .ref 436] } ::
  some { cls := .none, data := .fields #[] } ::
  none ::
  some { cls := .none, data := .fields #[] } ::
  none ::
  some { cls := .none, data := .fields #[] } ::
  none :: []
noncomputable def bare : Frag → Obj
  | (_, ⟨_, _, .func f, _⟩) :: _ => { cls := .none, data := .func { name := f.name, qualname := f.qualname, params := f.params, body := f.body, scope := f.scope, globals := 0, closure := [], defaults := .none, kwdefaults := .none } }
  | _ => default
noncomputable def asm (n : Nat) : Nat → Frag → List (Option Obj) → List Obj :=
  @Nat.rec (fun _ => Nat → Frag → List (Option Obj) → List Obj) (fun _ _ _ => []) (fun _ ih i K G => match K with
    | [] => []
    | (a, x) :: K' => match Nat.beq a i with
      | true => x :: ih (Nat.succ i) K' G
      | false => match G with
        | [] => []
        | some o :: G' => o :: ih (Nat.succ i) K G'
        | none :: G' => bare K' :: ih (Nat.succ i) K G') n
noncomputable def alt (l : List Obj) : Bool → List Obj :=
  @List.rec Obj (fun _ => Bool → List Obj) (fun _ => []) (fun a _ ih b => match b with | true => a :: ih false | false => ih true) l
noncomputable def bt (n : Nat) : List Obj → BT :=
  @Nat.rec (fun _ => List Obj → BT) (fun _ => .nil) (fun _ ih l => match l with | [] => .nil | o :: r => .node o (ih (alt r true)) (ih (alt r false))) n
noncomputable def ledger (P : Params) : List Obj := asm 460 0 (hd.heap_39 P) (hd.gs P)
noncomputable def st0_o2 (P : Params) : Obj := { cls := .none, data := .dict #[] }
noncomputable def st0_o3 (P : Params) : Obj := { cls := .type "dict", data := .dict #[{ hash := PyData.keyHash P (.ofString "__name__"), key := .str (.ofString "__name__") 165, val := .str (.ofString "__main__") 164 }, { hash := PyData.keyHash P (.ofString "__doc__"), key := .str (.ofString "__doc__") 166, val := .none }, { hash := PyData.keyHash P (.ofString "__package__"), key := .str (.ofString "__package__") 167, val := .none }, { hash := PyData.keyHash P (.ofString "__loader__"), key := .str (.ofString "__loader__") 168, val := .builtin "__main__.__loader__#opaque" }, { hash := PyData.keyHash P (.ofString "__spec__"), key := .str (.ofString "__spec__") 169, val := .none }, { hash := PyData.keyHash P (.ofString "__annotations__"), key := .str (.ofString "__annotations__") 170, val := .ref 6 }, { hash := PyData.keyHash P (.ofString "__builtins__"), key := .str (.ofString "__builtins__") 171, val := .ref 4 }, { hash := PyData.keyHash P (.ofString "__file__"), key := .str (.ofString "__file__") 173, val := .str (.ofString "/claim/cut.py") 172 }, { hash := PyData.keyHash P (.ofString "__cached__"), key := .str (.ofString "__cached__") 174, val := .none }] 9 }
noncomputable def st0_o12 (P : Params) : Obj := { cls := .none, data := .fields #[] }
noncomputable def st0_t (P : Params) : BT := bt 10 (((((ledger P).take 15).set 2 (st0_o2 P)).set 3 (st0_o3 P)).set 12 (st0_o12 P))
noncomputable abbrev st0 (w : World) (os : OsState) : SharedT := ⟨st0_t w.params, 15, {}, Array.mk [], boot_drawn, 187, os⟩
noncomputable def st1_o2 (P : Params) : Obj := { cls := .none, data := .dict #[] }
noncomputable def st1_o3 (P : Params) : Obj := { cls := .type "dict", data := .dict #[{ hash := PyData.keyHash P (.ofString "__name__"), key := .str (.ofString "__name__") 165, val := .str (.ofString "moduleyard.codebuf") 307 }, { hash := PyData.keyHash P (.ofString "__doc__"), key := .str (.ofString "__doc__") 166, val := .none }, { hash := PyData.keyHash P (.ofString "__package__"), key := .str (.ofString "__package__") 167, val := .none }, { hash := PyData.keyHash P (.ofString "__loader__"), key := .str (.ofString "__loader__") 168, val := .builtin "__main__.__loader__#opaque" }, { hash := PyData.keyHash P (.ofString "__spec__"), key := .str (.ofString "__spec__") 169, val := .none }, { hash := PyData.keyHash P (.ofString "__annotations__"), key := .str (.ofString "__annotations__") 170, val := .ref 6 }, { hash := PyData.keyHash P (.ofString "__builtins__"), key := .str (.ofString "__builtins__") 171, val := .ref 4 }, { hash := PyData.keyHash P (.ofString "__file__"), key := .str (.ofString "__file__") 173, val := .str (.ofString "/claim/cut.py") 172 }, { hash := PyData.keyHash P (.ofString "__cached__"), key := .str (.ofString "__cached__") 174, val := .none }, { hash := PyData.keyHash P (.ofString "_wall"), key := .str (.ofString "_wall") 193, val := .ref 21 }, { hash := PyData.keyHash P (.ofString "FP"), key := .str (.ofString "FP") 197, val := .int 11 196 }, { hash := PyData.keyHash P (.ofString "SP"), key := .str (.ofString "SP") 199, val := .int 14 198 }, { hash := PyData.keyHash P (.ofString "LNK"), key := .str (.ofString "LNK") 201, val := .int 15 200 }, { hash := PyData.keyHash P (.ofString "SCRATCH"), key := .str (.ofString "SCRATCH") 203, val := .int 10 202 }, { hash := PyData.keyHash P (.ofString "SCRATCH2"), key := .str (.ofString "SCRATCH2") 205, val := .int 12 204 }, { hash := PyData.keyHash P (.ofString "Item"), key := .str (.ofString "Item") 250, val := .ref 38 }, { hash := PyData.keyHash P (.ofString "holds_register"), key := .str (.ofString "holds_register") 257, val := .ref 49 }, { hash := PyData.keyHash P (.ofString "load_const"), key := .str (.ofString "load_const") 269, val := .ref 56 }, { hash := PyData.keyHash P (.ofString "STRAIGHT"), key := .str (.ofString "STRAIGHT") 273, val := .int 4 272 }, { hash := PyData.keyHash P (.ofString "zero_words"), key := .str (.ofString "zero_words") 287, val := .ref 63 }, { hash := PyData.keyHash P (.ofString "begin_rows"), key := .str (.ofString "begin_rows") 298, val := .ref 70 }, { hash := PyData.keyHash P (.ofString "end_rows"), key := .str (.ofString "end_rows") 306, val := .ref 77 }, { hash := PyData.keyHash P (.ofString "CodeBuffer"), key := .str (.ofString "CodeBuffer") 401, val := .ref 143 }] 23 }
noncomputable def st1_o12 (P : Params) : Obj := { cls := .none, data := .fields #[.int 1 0, .int 0 0, .ref 20, .int 10 0, .int 0 0, .ref 27, .int 29 0, .int 0 0, .ref 48, .int 32 0, .int 0 0, .ref 55, .int 44 0, .int 0 0, .ref 62, .int 63 0, .int 0 0, .ref 69, .int 70 0, .int 0 0, .ref 76, .int 77 0, .int 0 0, .ref 83] }
noncomputable def st1_t (P : Params) : BT := bt 10 (((((ledger P).take 148).set 2 (st1_o2 P)).set 3 (st1_o3 P)).set 12 (st1_o12 P))
noncomputable abbrev st1 (w : World) (os : OsState) : SharedT := ⟨st1_t w.params, 148, {}, Array.mk [], boot_drawn, 402, os⟩
noncomputable def st2_o3 (P : Params) : Obj := { cls := .type "dict", data := .dict #[{ hash := PyData.keyHash P (.ofString "__name__"), key := .str (.ofString "__name__") 165, val := .str (.ofString "moduleyard.registers") 449 }, { hash := PyData.keyHash P (.ofString "__doc__"), key := .str (.ofString "__doc__") 166, val := .none }, { hash := PyData.keyHash P (.ofString "__package__"), key := .str (.ofString "__package__") 167, val := .none }, { hash := PyData.keyHash P (.ofString "__loader__"), key := .str (.ofString "__loader__") 168, val := .builtin "__main__.__loader__#opaque" }, { hash := PyData.keyHash P (.ofString "__spec__"), key := .str (.ofString "__spec__") 169, val := .none }, { hash := PyData.keyHash P (.ofString "__annotations__"), key := .str (.ofString "__annotations__") 170, val := .ref 6 }, { hash := PyData.keyHash P (.ofString "__builtins__"), key := .str (.ofString "__builtins__") 171, val := .ref 4 }, { hash := PyData.keyHash P (.ofString "__file__"), key := .str (.ofString "__file__") 173, val := .str (.ofString "/claim/cut.py") 172 }, { hash := PyData.keyHash P (.ofString "__cached__"), key := .str (.ofString "__cached__") 174, val := .none }, { hash := PyData.keyHash P (.ofString "_wall"), key := .str (.ofString "_wall") 193, val := .ref 21 }, { hash := PyData.keyHash P (.ofString "FP"), key := .str (.ofString "FP") 197, val := .int 11 196 }, { hash := PyData.keyHash P (.ofString "SP"), key := .str (.ofString "SP") 199, val := .int 14 198 }, { hash := PyData.keyHash P (.ofString "LNK"), key := .str (.ofString "LNK") 201, val := .int 15 200 }, { hash := PyData.keyHash P (.ofString "SCRATCH"), key := .str (.ofString "SCRATCH") 203, val := .int 10 202 }, { hash := PyData.keyHash P (.ofString "SCRATCH2"), key := .str (.ofString "SCRATCH2") 205, val := .int 12 204 }, { hash := PyData.keyHash P (.ofString "Item"), key := .str (.ofString "Item") 250, val := .ref 38 }, { hash := PyData.keyHash P (.ofString "holds_register"), key := .str (.ofString "holds_register") 257, val := .ref 49 }, { hash := PyData.keyHash P (.ofString "load_const"), key := .str (.ofString "load_const") 269, val := .ref 56 }, { hash := PyData.keyHash P (.ofString "STRAIGHT"), key := .str (.ofString "STRAIGHT") 273, val := .int 4 272 }, { hash := PyData.keyHash P (.ofString "zero_words"), key := .str (.ofString "zero_words") 287, val := .ref 63 }, { hash := PyData.keyHash P (.ofString "begin_rows"), key := .str (.ofString "begin_rows") 298, val := .ref 70 }, { hash := PyData.keyHash P (.ofString "end_rows"), key := .str (.ofString "end_rows") 306, val := .ref 77 }, { hash := PyData.keyHash P (.ofString "CodeBuffer"), key := .str (.ofString "CodeBuffer") 401, val := .ref 143 }, { hash := PyData.keyHash P (.ofString "YardError"), key := .str (.ofString "YardError") 423, val := .ref 157 }, { hash := PyData.keyHash P (.ofString "BadRow"), key := .str (.ofString "BadRow") 448, val := .ref 177 }, { hash := PyData.keyHash P (.ofString "RegisterPool"), key := .str (.ofString "RegisterPool") 534, val := .ref 237 }] 26 }
noncomputable def st2_o12 (P : Params) : Obj := { cls := .none, data := .fields #[.int 1 0, .int 0 0, .ref 20, .int 10 0, .int 0 0, .ref 27, .int 29 0, .int 0 0, .ref 48, .int 32 0, .int 0 0, .ref 55, .int 44 0, .int 0 0, .ref 62, .int 63 0, .int 0 0, .ref 69, .int 70 0, .int 0 0, .ref 76, .int 77 0, .int 0 0, .ref 83, .int 105 0, .int 0 0, .ref 153, .int 107 0, .int 0 0, .ref 166, .int 112 0, .int 0 0, .ref 185] }
noncomputable def st2_t (P : Params) : BT := bt 10 ((((ledger P).take 242).set 3 (st2_o3 P)).set 12 (st2_o12 P))
noncomputable abbrev st2 (w : World) (os : OsState) : SharedT := ⟨st2_t w.params, 242, {}, Array.mk [], boot_drawn, 535, os⟩
noncomputable def st3_o3 (P : Params) : Obj := { cls := .type "dict", data := .dict #[{ hash := PyData.keyHash P (.ofString "__name__"), key := .str (.ofString "__name__") 165, val := .str (.ofString "moduleyard.coder") 535 }, { hash := PyData.keyHash P (.ofString "__doc__"), key := .str (.ofString "__doc__") 166, val := .none }, { hash := PyData.keyHash P (.ofString "__package__"), key := .str (.ofString "__package__") 167, val := .none }, { hash := PyData.keyHash P (.ofString "__loader__"), key := .str (.ofString "__loader__") 168, val := .builtin "__main__.__loader__#opaque" }, { hash := PyData.keyHash P (.ofString "__spec__"), key := .str (.ofString "__spec__") 169, val := .none }, { hash := PyData.keyHash P (.ofString "__annotations__"), key := .str (.ofString "__annotations__") 170, val := .ref 6 }, { hash := PyData.keyHash P (.ofString "__builtins__"), key := .str (.ofString "__builtins__") 171, val := .ref 4 }, { hash := PyData.keyHash P (.ofString "__file__"), key := .str (.ofString "__file__") 173, val := .str (.ofString "/claim/cut.py") 172 }, { hash := PyData.keyHash P (.ofString "__cached__"), key := .str (.ofString "__cached__") 174, val := .none }, { hash := PyData.keyHash P (.ofString "_wall"), key := .str (.ofString "_wall") 193, val := .ref 21 }, { hash := PyData.keyHash P (.ofString "FP"), key := .str (.ofString "FP") 197, val := .int 11 196 }, { hash := PyData.keyHash P (.ofString "SP"), key := .str (.ofString "SP") 199, val := .int 14 198 }, { hash := PyData.keyHash P (.ofString "LNK"), key := .str (.ofString "LNK") 201, val := .int 15 200 }, { hash := PyData.keyHash P (.ofString "SCRATCH"), key := .str (.ofString "SCRATCH") 203, val := .int 10 202 }, { hash := PyData.keyHash P (.ofString "SCRATCH2"), key := .str (.ofString "SCRATCH2") 205, val := .int 12 204 }, { hash := PyData.keyHash P (.ofString "Item"), key := .str (.ofString "Item") 250, val := .ref 38 }, { hash := PyData.keyHash P (.ofString "holds_register"), key := .str (.ofString "holds_register") 257, val := .ref 49 }, { hash := PyData.keyHash P (.ofString "load_const"), key := .str (.ofString "load_const") 269, val := .ref 56 }, { hash := PyData.keyHash P (.ofString "STRAIGHT"), key := .str (.ofString "STRAIGHT") 273, val := .int 4 272 }, { hash := PyData.keyHash P (.ofString "zero_words"), key := .str (.ofString "zero_words") 287, val := .ref 63 }, { hash := PyData.keyHash P (.ofString "begin_rows"), key := .str (.ofString "begin_rows") 298, val := .ref 70 }, { hash := PyData.keyHash P (.ofString "end_rows"), key := .str (.ofString "end_rows") 306, val := .ref 77 }, { hash := PyData.keyHash P (.ofString "CodeBuffer"), key := .str (.ofString "CodeBuffer") 401, val := .ref 143 }, { hash := PyData.keyHash P (.ofString "YardError"), key := .str (.ofString "YardError") 423, val := .ref 157 }, { hash := PyData.keyHash P (.ofString "BadRow"), key := .str (.ofString "BadRow") 448, val := .ref 177 }, { hash := PyData.keyHash P (.ofString "RegisterPool"), key := .str (.ofString "RegisterPool") 534, val := .ref 237 }, { hash := PyData.keyHash P (.ofString "Coder"), key := .str (.ofString "Coder") 730, val := .ref 379 }] 27 }
noncomputable def st3_o12 (P : Params) : Obj := { cls := .none, data := .fields #[.int 1 0, .int 0 0, .ref 20, .int 10 0, .int 0 0, .ref 27, .int 29 0, .int 0 0, .ref 48, .int 32 0, .int 0 0, .ref 55, .int 44 0, .int 0 0, .ref 62, .int 63 0, .int 0 0, .ref 69, .int 70 0, .int 0 0, .ref 76, .int 77 0, .int 0 0, .ref 83, .int 105 0, .int 0 0, .ref 153, .int 107 0, .int 0 0, .ref 166, .int 112 0, .int 0 0, .ref 185, .int 159 0, .int 0 0, .ref 247] }
noncomputable def st3_t (P : Params) : BT := bt 10 ((((ledger P).take 384).set 3 (st3_o3 P)).set 12 (st3_o12 P))
noncomputable abbrev st3 (w : World) (os : OsState) : SharedT := ⟨st3_t w.params, 384, {}, Array.mk [], boot_drawn, 731, os⟩
noncomputable def st4_t (P : Params) : BT := bt 10 (ledger P)
noncomputable abbrev st4 (w : World) (os : OsState) : SharedT := ⟨st4_t w.params, 460, {}, Array.mk [], boot_drawn, 871, os⟩
noncomputable abbrev prE : Env := { scope := pr.main.scope, locals := mainNs, globals := mainNs, cells := [], code := .ref 13, frame := some 14 }
noncomputable abbrev prC : Code := .body (behindTheImports pr) prE
abbrev prB : List Frame := [topFrame ⟨0, 0, 0, 0⟩]
abbrev prA : Option Value := some (.ref 6)
noncomputable abbrev sts1 : List Stmt := ((behindTheImports pr).drop 0).take 19
noncomputable abbrev sts2 : List Stmt := ((behindTheImports pr).drop 19).take 5
noncomputable abbrev sts3 : List Stmt := ((behindTheImports pr).drop 24).take 2
noncomputable abbrev sts4 : List Stmt := ((behindTheImports pr).drop 26).take 7
theorem pr_body : behindTheImports pr = sts1 ++ (sts2 ++ (sts3 ++ (sts4 ++ ([])))) := by kernel_rfl
theorem pr_pre (w : World) (os : OsState) : topGo treeTable pr w 11 prA 12 ⟨boot_heap w.params, Array.mk [], boot_drawn, boot_toks, os⟩ (topStub pr) = some ((st0 w os).abs, ⟨denote treeTable prC, prC, ⟨0, 0, 0, 0⟩, prB⟩) := by kernel_rfl
theorem pr_block (w : World) (os : OsState) : segRun treeTable pr w 11 prA 1 1 (st0 w os).abs (blockOf (behindTheImports pr) prE prC ⟨0, 0, 0, 0⟩ prB) = some (.next, (st0 w os).abs, prC, ⟨0, 0, 0, 0⟩) := by kernel_rfl
theorem pr_seg1 (w : World) (os : OsState) : segRunT treeTable pr w 11 prA 1 979 (st0 w os) (piecesOf sts1 prE prC ⟨0, 0, 0, 0⟩ prB) = some (.next, st1 w os, prC, ⟨77, 0, 103, 46⟩) := by kernel_rfl
theorem pr_seg2 (w : World) (os : OsState) : segRunT treeTable pr w 11 prA 1 880 (st1 w os) (piecesOf sts2 prE prC ⟨77, 0, 103, 46⟩ prB) = some (.next, st2 w os, prC, ⟨112, 0, 157, 54⟩) := by kernel_rfl
theorem pr_seg3 (w : World) (os : OsState) : segRunT treeTable pr w 11 prA 1 807 (st2 w os) (piecesOf sts3 prE prC ⟨112, 0, 157, 54⟩ prB) = some (.next, st3 w os, prC, ⟨159, 0, 256, 17⟩) := by kernel_rfl
theorem pr_seg4 (w : World) (os : OsState) : segRunT treeTable pr w 11 prA 1 654 (st3 w os) (piecesOf sts4 prE prC ⟨159, 0, 256, 17⟩ prB) = some (.next, st4 w os, prC, ⟨344, 0, 384, 79⟩) := by kernel_rfl
theorem pr_fin (w : World) (os : OsState) : topRun treeTable pr w 11 prA 2 (st4 w os).abs ⟨doneF .next, prC, ⟨344, 0, 384, 79⟩, prB⟩ = some (st4 w os).abs := by kernel_rfl
theorem pr_run (w : World) (os : OsState) : topRun treeTable pr w 11 prA (12 + (1 + (979 + (880 + (807 + (654 + (2))))))) ⟨boot_heap w.params, Array.mk [], boot_drawn, boot_toks, os⟩ (topStub pr) = some (st4 w os).abs :=
  go_top (pr_pre w os) (piece_block (pr_block w os) ((congrArg (fun b => topRun treeTable pr w 11 prA _ (st0 w os).abs (restOf b prE prC ⟨0, 0, 0, 0⟩ prB)) pr_body).trans (piece_app (segRun_of (pr_seg1 w os)) (piece_app (segRun_of (pr_seg2 w os)) (piece_app (segRun_of (pr_seg3 w os)) (piece_app (segRun_of (pr_seg4 w os)) (piece_nil (pr_fin w os))))))))
noncomputable abbrev endH (P : Params) : Heap := absHeap (st4_t P) 460 {}
noncomputable abbrev endS (w : World) (os : OsState) : Shared := ⟨endH w.params, Array.mk [], boot_drawn, 871, os⟩
theorem pr_look1 (w : World) (os : OsState) : (staticsOk (importedModules pr.main.body) (boot_heap w.params) (endH w.params) && namesBound pr (endH w.params) && gensDone (endS w os) && laidKept (boot_heap w.params) (endH w.params)) = true := by kernel_rfl
theorem pr_look2 (w : World) (os : OsState) : openSeen hd.view_39 [] (importedModules pr.main.body) (fun s => xlAt hd.view_39 [] s && recOk (RowW.records rr) s) true (endS w os) = openGood hd.view_39 [] := by kernel_rfl
theorem pr_look3 (w : World) (os : OsState) : Hook.obs hkH (endS w os) = Hook.val hkH w := by kernel_rfl
theorem pr_left : LeftO pr hd.view_39 [] (fun s => xlAt hd.view_39 [] s && recOk (RowW.records rr) s) (Hook.obs hkH) (Hook.val hkH) 6758 :=
  LeftO.of_pieces (H₀ := boot_heap) (H₁ := endH) (gs₀ := Array.mk []) (gs₁ := Array.mk []) (d₀ := boot_drawn) (d₁ := boot_drawn) (k₀ := boot_toks) (k₁ := 871) (m₀ := 11) (ann := prA) (M := 12 + (1 + (979 + (880 + (807 + (654 + (2))))))) pr_open pr_size pr_run rfl
    (fun w => funext fun os => Prod.ext (pr_look1 w os) (Prod.ext (pr_look2 w os) (pr_look3 w os)))
noncomputable abbrev rr0 : OpenLaw := PySem.Challenge.rw_pq0756_01
theorem and_mk {a b : Bool} (h : a = true) (k : b = true) : (a && b) = true := by rw [h, k]; rfl
theorem saidr_2 : (namesResolve rr0.row.prog) = true := by kernel_rfl
theorem saidr_4 : (noRoadLSs { strict := !(importedModules rr0.row.prog.main.body).all cThrough.contains, foot := none, bare := (["vars", "dir", "locals"] : List Str).filter (readsOut rr0.row.prog rr0.row.prog.main.body) } rr0.row.prog.main.body) = true := by kernel_rfl
theorem saidr_5 : (namesMeet rr0.row.prog rr0.row.prog.main.body fun _ n => attrL n) = true := by kernel_rfl
theorem said_row : rr0.row.wellSaid = true := by
  unfold OpenRow.wellSaid OpenRow.partSaid looksOpen
  with_reducible (repeat' (refine and_mk ?_ ?_))
  · kernel_rfl
  · kernel_rfl
  · exact saidr_2
  · kernel_rfl
  · exact saidr_4
  · exact saidr_5
  · kernel_rfl
  · kernel_rfl
  · kernel_rfl
  · kernel_rfl
  · kernel_rfl
  · kernel_rfl
  · kernel_rfl
  · kernel_rfl
  · kernel_rfl
  · kernel_rfl
  · kernel_rfl
  · kernel_rfl
  · kernel_rfl
  · kernel_rfl
  · kernel_rfl
theorem said_3 : (noClassBlock rr0.prog rr0.footing) = true := by kernel_rfl
theorem said_6 : (noRoadLSs { strict := true, foot := some rr0.bound', writes := rr0.writes, may := rr0.may } rr0.footing) = true := by kernel_rfl
theorem said_10 : (rr0.bound'.all (fun n => !builtinNamed n || rr0.about == [n] || !rr0.reads n)) = true := by kernel_rfl
theorem said_13 : (namesMeet rr0.prog rr0.footing (fun sc n => (!(["type", "isinstance", "issubclass", "getattr", "hasattr"] : List Str).contains n || sc.names.lookup n == some .globalImplicit) && (rr0.may != some n || sc.kind == .module || sc.names.lookup n == some .globalImplicit))) = true := by kernel_rfl
theorem said_16 : (rr0.own.all (fun n => !builtinNamed n)) = true := by kernel_rfl
theorem said_17 : (namesMeet rr0.prog rr0.above (fun _ n => !rr0.own.contains n)) = true := by kernel_rfl
theorem said_18 : (namesMeet rr0.prog rr0.footing fun sc n => sc.kind == .module || sc.names.lookup n != some .globalExplicit) = true := by kernel_rfl
theorem law_said : OpenLaw.wellSaid PySem.Challenge.rw_pq0756_01 = true := by
  unfold OpenLaw.wellSaid
  with_reducible (repeat' (refine and_mk ?_ ?_))
  · exact said_row
  · kernel_rfl
  · kernel_rfl
  · exact said_3
  · kernel_rfl
  · kernel_rfl
  · exact said_6
  · kernel_rfl
  · kernel_rfl
  · kernel_rfl
  · exact said_10
  · kernel_rfl
  · kernel_rfl
  · exact said_13
  · kernel_rfl
  · kernel_rfl
  · exact said_16
  · exact said_17
  · exact said_18
abbrev PG : Program := PySem.Challenge.rw_pq0756_01.row.prog
abbrev Ar (dp un : Nat) (gd : Option (List Code)) (frames : List Env) : Around := { handled := none, depth := dp, frames := some frames, guards := gd, units := un }
abbrev Led := List (Addr × Obj)
/-- what a call makes: a statement of all that may come behind it -/
abbrev PostT := Nat → (Led → Value → Prop) → Prop
/-- addresses that differ, from one another and from those of an opaque rest -/
def Sep (as : List Nat) (Rs : Led) : Prop := as.Nodup ∧ ∀ p ∈ Rs, (p.1 : Nat) ∉ as
def adrs : Nat → Led → List Nat
  | 0, _ => []
  | _, [] => []
  | n + 1, p :: r => p.1 :: adrs n r
theorem adrs_split : ∀ {as : List Nat} {l : Led}, adrs as.length l = as → as = (l.take as.length).map (fun p => (p.1 : Nat))
  | [], _, _ => rfl
  | a :: as, [], h => by cases h
  | a :: as, p :: l, h => by
    rw [List.length_cons, adrs, List.cons.injEq] at h
    rw [List.length_cons, List.take_succ_cons, List.map_cons, ← adrs_split h.2, h.1]
/-- the pieces of a ledger that a call takes, in order -/
inductive Cut : List Nat → Led → Led → Led → List Nat → List Nat → Prop
  | nil {as l} : Cut as l [] l [] as
  | take {a o as l A r x y} : Cut as l A r x y → Cut (a :: as) ((a, o) :: l) ((a, o) :: A) r (a :: x) y
  | keep {a o as l A r x y} : Cut as l A r x y → Cut (a :: as) ((a, o) :: l) A ((a, o) :: r) x (a :: y)
theorem Cut.subA {as l A r x y} (h : Cut as l A r x y) : ∀ p ∈ A, p ∈ l := by
  induction h with
  | nil => intro p hp; cases hp
  | take _ ih => intro p hp; rcases List.mem_cons.mp hp with rfl | hp; exact .head _; exact .tail _ (ih p hp)
  | keep _ ih => exact fun p hp => .tail _ (ih p hp)
theorem Cut.subR {as l A r x y} (h : Cut as l A r x y) : ∀ p ∈ r, p ∈ l := by
  induction h with
  | nil => exact fun p hp => hp
  | take _ ih => exact fun p hp => .tail _ (ih p hp)
  | keep _ ih => intro p hp; rcases List.mem_cons.mp hp with rfl | hp; exact .head _; exact .tail _ (ih p hp)
theorem Cut.perm {as l A r x y} (h : Cut as l A r x y) : (x ++ y).Perm as := by
  induction h with
  | nil => exact .refl _
  | take _ ih => exact ih.cons _
  | keep _ ih => exact List.perm_middle.trans (ih.cons _)
theorem Cut.adrsA {as l A r x y} (h : Cut as l A r x y) : A.map (·.1) = x := by
  induction h with
  | nil => rfl
  | take _ ih => rw [List.map_cons, ih]
  | keep _ ih => exact ih
/-- the rest's addresses: those that were not taken, and the opaque ones -/
theorem Cut.inR {as l A r x y Rs} (h : Cut as l A r x y) (h1 : adrs as.length l = as) (h2 : l.drop as.length = Rs) : ∀ p ∈ r, p ∈ Rs ∨ (p.1 : Nat) ∈ y := by
  induction h with
  | nil =>
    rename_i as l
    intro p hp
    rw [← List.take_append_drop as.length l] at hp
    rcases List.mem_append.mp hp with hp | hp
    · right
      rw [adrs_split h1]
      exact List.mem_map_of_mem hp
    · left; rw [← h2]; exact hp
  | take _ ih => exact ih (by injection h1) h2
  | keep _ ih =>
    intro p hp
    rcases List.mem_cons.mp hp with rfl | hp
    · exact .inr (.head _)
    · exact (ih (by injection h1) h2 p hp).imp id (.tail _)
theorem Cut.dis {as l A r x y Rs} (h : Cut as l A r x y) (S : Sep as Rs) (h1 : adrs as.length l = as) (h2 : l.drop as.length = Rs) : ∀ p ∈ r, ∀ q ∈ A, p.1 ≠ q.1 := by
  intro p hp q hq e
  have hqx : (q.1 : Nat) ∈ x := by rw [← h.adrsA]; exact List.mem_map_of_mem hq
  have hnd : (x ++ y).Nodup := h.perm.nodup_iff.mpr S.1
  rcases h.inR h1 h2 p hp with hR | hy
  · exact S.2 p hR (by rw [e]; exact h.perm.mem_iff.mp (List.mem_append_left _ hqx))
  · exact (List.nodup_append.mp hnd).2.2 _ hqx _ (e ▸ hy) rfl
theorem Cut.nd {as l A r x y Rs} (h : Cut as l A r x y) (S : Sep as Rs) : (A.map (·.1)).Nodup := by
  rw [h.adrsA]
  exact (List.nodup_append.mp (h.perm.nodup_iff.mpr S.1)).1
/-- all below n, and apart -/
def Fresh (n : Nat) (as : List Nat) (Rs : Led) : Prop := Sep as Rs ∧ (∀ a ∈ as, a < n) ∧ ∀ p ∈ Rs, (p.1 : Nat) < n
theorem Cut.fresh {as l A r x y Rs n} (h : Cut as l A r x y) (S : Sep as Rs) (h1 : adrs as.length l = as) (h2 : l.drop as.length = Rs) (hn : ∀ p ∈ l, (p.1 : Nat) < n) : Fresh n (x ++ y) Rs := by
  refine ⟨⟨h.perm.nodup_iff.mpr S.1, fun p hp hm => S.2 p hp (h.perm.mem_iff.mp hm)⟩, fun a ha => ?_, fun p hp => hn p (List.mem_of_mem_drop (h2 ▸ hp))⟩
  have ha := h.perm.mem_iff.mp ha
  rw [adrs_split h1] at ha
  obtain ⟨p, hp, rfl⟩ := List.mem_map.mp ha
  exact hn p (List.mem_of_mem_take hp)
theorem Fresh.none {n as Rs} (h : Fresh n as Rs) : Sep as Rs := h.1
theorem Fresh.one {n as Rs} {a : Nat} (h : Fresh n as Rs) (ha : n ≤ a) : Sep (a :: as) Rs :=
  ⟨List.nodup_cons.mpr ⟨fun m => absurd (h.2.1 a m) (Nat.not_lt_of_le ha), h.1.1⟩, fun p hp m => by
    rcases List.mem_cons.mp m with e | m
    · exact absurd (h.2.2 p hp) (Nat.not_lt_of_le (e ▸ ha))
    · exact h.1.2 p hp m⟩
theorem Sep.consT {as Rs} {q : Nat} (h : Sep as Rs) (hq : q ∉ as) (hR : ∀ p ∈ Rs, (p.1 : Nat) ≠ q) : Sep (q :: as) Rs :=
  ⟨List.nodup_cons.mpr ⟨hq, h.1⟩, fun p hp m => by
    rcases List.mem_cons.mp m with e | m
    · exact hR p hp e
    · exact h.2 p hp m⟩
theorem Fresh.two {n as Rs} {a b : Nat} (h : Fresh n as Rs) (ha : n ≤ a) (hb : n ≤ b) (hab : a ≠ b) : Sep (a :: b :: as) Rs :=
  (h.one hb).consT (fun m => by
    rcases List.mem_cons.mp m with e | m
    · exact hab e
    · exact absurd (h.2.1 a m) (Nat.not_lt_of_le ha)) fun p hp => Nat.ne_of_lt (Nat.lt_of_lt_of_le (h.2.2 p hp) ha)
theorem Sep.ne01 {a b : Nat} {as Rs} (S : Sep (a :: b :: as) Rs) : a ≠ b := fun e => (List.nodup_cons.mp S.1).1 (e ▸ .head _)
theorem Fresh.many {n as Rs} {ns : List Nat} (h : Fresh n as Rs) (hd : ns.Nodup) (ha : ∀ a ∈ ns, n ≤ a) : Sep (ns ++ as) Rs :=
  ⟨List.nodup_append.mpr ⟨hd, h.1.1, fun a m b m' e => absurd (h.2.1 b m') (Nat.not_lt_of_le (e ▸ ha a m))⟩, fun p hp m => by
    rcases List.mem_append.mp m with m | m
    · exact absurd (h.2.2 p hp) (Nat.not_lt_of_le (ha _ m))
    · exact h.1.2 p hp m⟩
theorem Fresh.tail {n as Rs} {Ts : Led} (h : Fresh n as Rs) (ha : ∀ p ∈ Ts, n ≤ (p.1 : Nat)) : Sep as (Ts ++ Rs) :=
  ⟨h.1.1, fun p hp m => by
    rcases List.mem_append.mp hp with hp | hp
    · exact absurd (h.2.1 _ m) (Nat.not_lt_of_le (ha p hp))
    · exact h.1.2 p hp m⟩
theorem Fresh.one_tail {n as Rs} {Ts : Led} {q : Nat} (h : Fresh n as Rs) (hq : n ≤ q) (ha : ∀ p ∈ Ts, n ≤ (p.1 : Nat)) (hne : ∀ p ∈ Ts, (p.1 : Nat) ≠ q) : Sep (q :: as) (Ts ++ Rs) :=
  (h.tail ha).consT (fun m => absurd (h.2.1 q m) (Nat.not_lt_of_le hq)) fun p hp => by
    rcases List.mem_append.mp hp with hp | hp
    · exact hne p hp
    · exact Nat.ne_of_lt (Nat.lt_of_lt_of_le (h.2.2 p hp) hq)
theorem Sep.push {as Rs} {l : Led} {a : Nat} (S : Sep as Rs) (hl : ∀ p ∈ l, (p.1 : Nat) < a) (h1 : adrs as.length l = as) (h2 : l.drop as.length = Rs) : Sep (a :: as) Rs :=
  S.consT (fun m => by
    rw [adrs_split h1] at m
    obtain ⟨p, hp, e⟩ := List.mem_map.mp m
    exact absurd (hl p (List.mem_of_mem_take hp)) (e ▸ Nat.lt_irrefl _)) fun p hp => Nat.ne_of_lt (hl p (List.mem_of_mem_drop (h2 ▸ hp)))
theorem Sep.push2 {as Rs} {l : Led} {a b : Nat} (S : Sep as Rs) (hl : ∀ p ∈ l, (p.1 : Nat) < b) (hab : b < a) (h1 : adrs as.length l = as) (h2 : l.drop as.length = Rs) : Sep (a :: b :: as) Rs := by
  have S' := S.push hl h1 h2
  refine S'.consT (fun m => ?_) fun p hp => Nat.ne_of_lt (Nat.lt_trans (hl p (List.mem_of_mem_drop (h2 ▸ hp))) hab)
  rcases List.mem_cons.mp m with e | m
  · exact absurd hab (e ▸ Nat.lt_irrefl _)
  · rw [adrs_split h1] at m
    obtain ⟨p, hp, e⟩ := List.mem_map.mp m
    exact absurd (Nat.lt_trans (hl p (List.mem_of_mem_take hp)) hab) (e ▸ Nat.lt_irrefl _)
theorem Sep.nil {as : List Nat} (h : as.Nodup) : Sep as [] := ⟨h, fun _ hp => nomatch hp⟩
/-- where an address of the list stands in the ledger, no other entry bears it -/
theorem sep_pre {Rs : Led} {d : Addr} {o : Obj} : ∀ {as : List Nat} {pre post : Led}, Sep as Rs → adrs as.length (pre ++ (d, o) :: post) = as → (pre ++ (d, o) :: post).drop as.length = Rs → pre.length < as.length → (∀ p ∈ pre, p.1 ≠ d) ∧ ∀ p ∈ post, p.1 ≠ d
  | [], _, _, _, _, _, h => absurd h (Nat.not_lt_zero _)
  | a :: as, [], post, S, h1, h2, _ => by
    refine ⟨(fun _ hp => nomatch hp), fun p hp e => ?_⟩
    rw [List.nil_append, List.length_cons, adrs, List.cons.injEq] at h1
    rw [List.nil_append, List.length_cons, List.drop_succ_cons] at h2
    rw [← List.take_append_drop as.length post] at hp
    rcases List.mem_append.mp hp with hp | hp
    · refine (List.nodup_cons.mp S.1).1 ?_
      rw [adrs_split h1.2, ← h1.1]
      exact List.mem_map.mpr ⟨p, hp, e⟩
    · exact S.2 p (h2 ▸ hp) (by rw [e, ← h1.1]; exact .head _)
  | a :: as, q :: pre, post, S, h1, h2, hl => by
    rw [List.cons_append, List.length_cons, adrs, List.cons.injEq] at h1
    rw [List.cons_append, List.length_cons, List.drop_succ_cons] at h2
    obtain ⟨i1, i2⟩ := sep_pre (as := as) (pre := pre) (post := post) ⟨(List.nodup_cons.mp S.1).2, fun p hp m => S.2 p hp (.tail _ m)⟩ h1.2 h2 (Nat.lt_of_succ_lt_succ (by simpa using hl))
    refine ⟨fun p hp => ?_, i2⟩
    rcases List.mem_cons.mp hp with rfl | hp
    · intro e
      refine (List.nodup_cons.mp S.1).1 ?_
      rw [← h1.1, e, adrs_split h1.2]
      have hl' : pre.length < as.length := Nat.lt_of_succ_lt_succ (by simpa using hl)
      have : (d, o) ∈ (pre ++ (d, o) :: post).take as.length := by
        rw [List.take_append, List.mem_append]
        right
        have : as.length - pre.length = (as.length - pre.length - 1) + 1 := by omega
        rw [this, List.take_succ_cons]
        exact .head _
      exact List.mem_map.mpr ⟨_, this, rfl⟩
    · exact i1 p hp
/-- one object of a ledger in another's place -/
inductive SetAt (d : Addr) (o o' : Obj) : List Nat → Led → Led → Prop
  | head {as l} : SetAt d o o' (d :: as) ((d, o) :: l) ((d, o') :: l)
  | tail {a b as l l'} : SetAt d o o' as l l' → SetAt d o o' (a :: as) ((a, b) :: l) ((a, b) :: l')
theorem SetAt.split {d : Addr} {o o' : Obj} {as : List Nat} {l l' : Led} (h : SetAt d o o' as l l') : ∃ pre post, l = pre ++ (d, o) :: post ∧ l' = pre ++ (d, o') :: post ∧ pre.length < as.length := by
  induction h with
  | head => exact ⟨[], _, rfl, rfl, Nat.succ_pos _⟩
  | tail _ ih => obtain ⟨pre, post, a, b, c⟩ := ih; exact ⟨_ :: pre, post, by rw [a]; rfl, by rw [b]; rfl, Nat.succ_lt_succ c⟩
theorem upd_of {d : Addr} {o o' : Obj} : ∀ {pre post : Led}, (∀ p ∈ pre, p.1 ≠ d) → (∀ p ∈ post, p.1 ≠ d) → Upd d o o' (pre ++ (d, o) :: post) (pre ++ (d, o') :: post)
  | [], _, _, h => .head h
  | _ :: _, _, h, h' => .tail (h _ (.head _)) (upd_of (fun p hp => h p (.tail _ hp)) h')
theorem upd_sep {d : Addr} {o o' : Obj} {as : List Nat} {Rs l l' : Led} (S : Sep as Rs) (h : SetAt d o o' as l l') (h1 : adrs as.length l = as := by rfl) (h2 : l.drop as.length = Rs := by rfl) : Upd d o o' l l' := by
  obtain ⟨pre, post, rfl, rfl, hl⟩ := h.split
  obtain ⟨a, b⟩ := sep_pre S h1 h2 hl
  exact upd_of a b
inductive SetF (d : Addr) (o : Obj) : List Nat → Led → (Obj → Led) → Prop
  | head {as l} : SetF d o (d :: as) ((d, o) :: l) (fun o' => (d, o') :: l)
  | tail {a b as l g} : SetF d o as l g → SetF d o (a :: as) ((a, b) :: l) (fun o' => (a, b) :: g o')
theorem SetF.split {d : Addr} {o : Obj} {as : List Nat} {l : Led} {g : Obj → Led} (h : SetF d o as l g) : ∃ pre post, l = pre ++ (d, o) :: post ∧ (g = fun o' => pre ++ (d, o') :: post) ∧ pre.length < as.length := by
  induction h with
  | head => exact ⟨[], _, rfl, rfl, Nat.succ_pos _⟩
  | tail _ ih => obtain ⟨pre, post, a, b, c⟩ := ih; exact ⟨_ :: pre, post, by rw [a]; rfl, by rw [b]; rfl, Nat.succ_lt_succ c⟩
theorem updF_of {d : Addr} {o : Obj} : ∀ {pre post : Led}, (∀ p ∈ pre, p.1 ≠ d) → (∀ p ∈ post, p.1 ≠ d) → UpdF d o (pre ++ (d, o) :: post) fun o' => pre ++ (d, o') :: post
  | [], _, _, h => .head h
  | _ :: _, _, h, h' => .tail (h _ (.head _)) (updF_of (fun p hp => h p (.tail _ hp)) h')
theorem updF_sep {d : Addr} {o : Obj} {as : List Nat} {Rs l : Led} {g : Obj → Led} (S : Sep as Rs) (h : SetF d o as l g) (h1 : adrs as.length l = as := by rfl) (h2 : l.drop as.length = Rs := by rfl) : UpdF d o l g := by
  obtain ⟨pre, post, rfl, rfl, hl⟩ := h.split
  obtain ⟨a, b⟩ := sep_pre S h1 h2 hl
  exact updF_of a b

def Con (w : World) (mean : ExcName → Option Value) (mg mb : Str → Option Value) (D : Nat) (f : Addr) (vs : List Value) (Pg : Heap → Prop) (A : Led) (Post : PostT) : Prop :=
  ∀ (dp un : Nat) (gd : Option (List Code)) (frames : List Env) (base g : Heap) (s : Shared) (R : Result → Shared → Prop),
    Below (Ar dp un gd frames) base frames g → (hd.heap_39 w.params).In g → Top hd.view_39 (looseW hd.view_39 []) mean mg mb g → dp ≤ D → un ≤ 10 * D → Pg g →
    g.objs.size ≤ s.heap.objs.size → (∀ b o, g.get? b = some o → s.heap.get? b = some o) → (∀ p ∈ A, s.heap.get? p.1 = some p.2 ∧ g.get? p.1 = none) → (A.map (·.1)).Nodup →
    (∀ h' tk', (∀ b o, g.get? b = some o → h'.get? b = some o) → Post g.objs.size fun A' r => (∀ p ∈ A', h'.get? p.1 = some p.2 ∧ g.get? p.1 = none) → R (.ok (.ret r)) { s with heap := h', toks := tk' }) →
    codeAny (model PG w) (Ar dp un gd frames) (.call (.ref f) ⟨vs, []⟩) R s
theorem Con.mono {w : World} {mean : ExcName → Option Value} {mg mb : Str → Option Value} {D D' : Nat} {f : Addr} {vs : List Value} {Pg Pg' : Heap → Prop} {A : Led} {Post Post' : PostT}
    (h : Con w mean mg mb D f vs Pg A Post) (hD : D' ≤ D) (hP : ∀ g, Pg' g → Pg g) (hq : ∀ n G, Post' n G → Post n G) : Con w mean mg mb D' f vs Pg' A Post' :=
  fun dp un gd frames base g s R B X T hd hu hp hsz hk hA hn ret => h dp un gd frames base g s R B X T (by omega) (by omega) (hP g hp) hsz hk hA hn fun h' tk' a => hq _ _ (ret h' tk' a)

section
variable {w : World} {mean : ExcName → Option Value} {mg mb : Str → Option Value}

theorem enter_def {dp un : Nat} {gd : Option (List Code)} {frames : List Env} {base g : Heap} {s : Shared} {R : Result → Shared → Prop} {K : Frag} {p : Program} {loose : List Str} {A : Led} {as : List Nat}
    {name qual : Str} {params : Arguments} {body : List Stmt} {scope : Scope} {dV kV doc pm cdv ct oc : Value} {an od : Option Addr} {osl : Array (Option Value)} {f : Addr} {args : Args} {binds : List (Str × Value)}
    (_B : Below (Ar dp un gd frames) base frames g) (X : K.In g) (T : Top p loose mean mg mb g) (hsz : g.objs.size ≤ s.heap.objs.size) (hk : ∀ b o, g.get? b = some o → s.heap.get? b = some o)
    (hA : ∀ p ∈ A, s.heap.get? p.1 = some p.2 ∧ g.get? p.1 = none) (hn : (A.map (·.1)).Nodup) (hroom : dp < recursionLimit)
    (ho : K.lookup f = some ⟨oc, od, .func (fnOf name qual params body scope dV kV doc pm an cdv ct), osl⟩) (hcd : codeIn K cdv qual = true)
    (hbind : BindsTo s (fnOf name qual params body scope dV kV doc pm an cdv ct) args binds) (hloc : ∀ y ∈ binds, scope.names.lookup y.1 = some .local) (has : adrs A.length A = as)
    (h : ∀ L' h₁ Q E, Fr g L' h₁ (fun y => binds.reverse.lookup y) → News g L' h₁ A → Sep as [] → PassesOwn (model PG w) ((Ar dp un gd frames).deeper (envOf qual scope L' f cdv)) (envOf qual scope L' f cdv) E →
      (∀ fl s', R (.ok (.ret (match fl with | .ret v => v | _ => .none))) s' → Q fl s') →
      wpAny (model PG w) ((Ar dp un gd frames).deeper (envOf qual scope L' f cdv)) (execs body (envOf qual scope L' f cdv)) Q E { s with heap := h₁, toks := s.toks + binds.length })
    (hco : scope.isCoroutine = false) (hgen : scope.isGenerator = false) (hkd : scope.kind = .function)
    (hcell : ∀ x ∈ scope.names, x.2 ≠ .cell) : codeAny (model PG w) (Ar dp un gd frames) (.call (.ref f) args) R s := by
  have X' : K.In s.heap := fun a o e => hk a o (X a o e)
  have S : Sep as [] := by
    refine Sep.nil ?_
    have e : ∀ {l : Led}, adrs l.length l = l.map (fun p => (p.1 : Nat)) := by
      intro l
      induction l with
      | nil => rfl
      | cons p r ih => rw [List.length_cons, adrs, ih, List.map_cons]
    rw [← has, e]
    exact hn
  refine codeAny_call_def (fd := fnOf name qual params body scope dV kV doc pm an cdv ct) (body := body) (binds := binds) hroom (X' _ _ ho) rfl (T.nolimit.keeps hk) (codeRec_of X' hcd) rfl hbind hcell hloc (fun h₁ hns hk₁ => ?_) hco hgen hkd
  refine h _ h₁ _ _ ⟨hns, fun b o e => hk₁ b o (hk b o e), hsz⟩ (fun p hp => ⟨hk₁ _ _ (hA p hp).1, Nat.ne_of_lt (Heap.lt_size (hA p hp).1), (hA p hp).2⟩) S ?_ fun fl s' r => r
  passes_own

theorem con_codeS {D : Nat} {f : Addr} {vs : List Value} {Pg : Heap → Prop} {A rest news Rs : Led} {as x y : List Nat} {Post : PostT}
    {A₀ : Around} {dp un : Nat} {gd : Option (List Code)} {env : Env} {outer : List Env} {base h₀ : Heap} {L : Addr} {m : Str → Option Value} {s : Shared} {R : Result → Shared → Prop}
    (F : Fr h₀ L s.heap m) (B : Below A₀ base outer h₀) (X : (hd.heap_39 w.params).In h₀) (N : News h₀ L s.heap news) (T : Top hd.view_39 (looseW hd.view_39 []) mean mg mb h₀) (S : Sep as Rs) (hc : Cut as news A rest x y) (C : Con w mean mg mb D f vs Pg A Post)
    (h1 : adrs as.length news = as) (h2 : news.drop as.length = Rs) (hdp : dp ≤ D) (hun : un ≤ 10 * D) (hf : env.frame = some L) (hke : env.scope.kind = .function)
    (hP : ∀ g, (∀ b o, h₀.get? b = some o → g.get? b = some o) → (∀ p ∈ rest, g.get? p.1 = some p.2) → Pg g)
    (ret : ∀ n₀ h' tk' (XX : Led → Prop), Fr h₀ L h' m → Fresh n₀ (x ++ y) Rs → @LE.le Nat _ h₀.objs.size n₀ → (∀ A', XX A' → News h₀ L h' (A' ++ rest)) → Post n₀ fun A' r => XX A' → R (.ok (.ret r)) { s with heap := h', toks := tk' }) :
    codeAny (model PG w) (Ar dp un gd (env :: outer)) (.call (.ref f) ⟨vs, []⟩) R s := by
  have NA : News h₀ L s.heap A := fun p hp => N p (hc.subA p hp)
  obtain ⟨FG, BG, st, _⟩ := groundX (A := Ar dp un gd (env :: outer)) (R := R) B F NA rfl hf hke
  have kp : ∀ b o, (hideAll s.heap (A.map (·.1))).get? b = some o → s.heap.get? b = some o := fun b o e => of_hideAll _ e
  have hrest : ∀ p ∈ rest, (hideAll s.heap (A.map (·.1))).get? p.1 = some p.2 := fun p hp => hideAll_get _ (N p (hc.subR p hp)).1 fun q => by
    obtain ⟨a, ha, e⟩ := List.mem_map.mp q
    exact hc.dis S h1 h2 p hp a ha e.symm
  refine C dp un gd (env :: outer) base _ s R ⟨rfl, BG.stays, BG.frames⟩ (X.keeps st) (T.keeps st) hdp hun (hP _ st hrest) (Nat.le_of_eq (hideAll_size _ _)) kp
    (fun p hp => ⟨(NA p hp).1, hideAll_none _ (List.mem_map_of_mem hp)⟩) (hc.nd S) fun h' tk' hk' => ?_
  obtain ⟨oL, es, ep, hL, hLd, hLk, hLf⟩ := FG.ns
  rw [hideAll_size]
  refine ret s.heap.objs.size h' tk' (fun A' => ∀ p ∈ A', h'.get? p.1 = some p.2 ∧ (hideAll s.heap (A.map (·.1))).get? p.1 = none) ⟨⟨oL, es, ep, hk' _ _ hL, hLd, hLk, hLf⟩, fun b o e => hk' b o (st b o e), F.above⟩
    (hc.fresh S h1 h2 fun p hp => Heap.lt_size (N p hp).1) (Nat.le_of_lt (Nat.lt_of_le_of_lt F.above F.ns.lt)) fun A' hA' p hp => ?_
  rcases List.mem_append.mp hp with hp | hp
  · refine ⟨(hA' p hp).1, fun q => ?_, ?_⟩
    · have := (hA' p hp).2; rw [q, hL] at this; cases this
    · cases q : h₀.get? p.1 with
      | none => rfl
      | some o => have := (hA' p hp).2; rw [st _ _ q] at this; cases this
  · exact ⟨hk' _ _ (hrest p hp), (N p (hc.subR p hp)).2⟩
theorem con_useC {D : Nat} {f : Addr} {vs : List Value} {Pg : Heap → Prop} {A rest news Rs : Led} {as x y : List Nat} {Post : PostT}
    {A₀ A₁ : Around} {env : Env} {outer : List Env} {base h₀ : Heap} {L : Addr} {m : Str → Option Value} {s : Shared} {R : Result → Shared → Prop}
    (F : Fr h₀ L s.heap m) (B : Below A₀ base outer h₀) (X : (hd.heap_39 w.params).In h₀) (N : News h₀ L s.heap news) (T : Top hd.view_39 (looseW hd.view_39 []) mean mg mb h₀) (S : Sep as Rs) (hc : Cut as news A rest x y) (C : Con w mean mg mb D f vs Pg A Post)
    (h1 : adrs as.length news = as) (h2 : news.drop as.length = Rs) (hdp : A₁.depth ≤ D) (hun : A₁.units ≤ 10 * D) (hh : A₁.handled = none) (hfr : A₁.frames = some (env :: outer)) (hf : env.frame = some L) (hke : env.scope.kind = .function)
    (hP : ∀ g, (∀ b o, h₀.get? b = some o → g.get? b = some o) → (∀ p ∈ rest, g.get? p.1 = some p.2) → Pg g)
    (ret : ∀ n₀ h' tk' (XX : Led → Prop), Fr h₀ L h' m → Fresh n₀ (x ++ y) Rs → @LE.le Nat _ h₀.objs.size n₀ → (∀ A', XX A' → News h₀ L h' (A' ++ rest)) → Post n₀ fun A' r => XX A' → R (.ok (.ret r)) { s with heap := h', toks := tk' }) :
    codeAny (model PG w) A₁ (.call (.ref f) ⟨vs, []⟩) R s := by
  obtain ⟨hd1, dp1, fr1, gd1, un1⟩ := A₁
  dsimp only at hh hfr hdp hun
  subst hh hfr
  exact con_codeS F B X N T S hc C h1 h2 hdp hun hf hke hP ret
theorem con_use {D : Nat} {f : Addr} {vs : List Value} {Pg : Heap → Prop} {A rest news Rs : Led} {as x y : List Nat} {Post : PostT}
    {A₀ A₁ : Around} {env : Env} {outer : List Env} {base h₀ : Heap} {L : Addr} {m : Str → Option Value} {s : Shared} {Q E : Value → Shared → Prop}
    (F : Fr h₀ L s.heap m) (B : Below A₀ base outer h₀) (X : (hd.heap_39 w.params).In h₀) (N : News h₀ L s.heap news) (T : Top hd.view_39 (looseW hd.view_39 []) mean mg mb h₀) (S : Sep as Rs) (hc : Cut as news A rest x y) (C : Con w mean mg mb D f vs Pg A Post)
    (h1 : adrs as.length news = as) (h2 : news.drop as.length = Rs) (hdp : A₁.depth ≤ D) (hun : A₁.units ≤ 10 * D) (hh : A₁.handled = none) (hfr : A₁.frames = some (env :: outer)) (hf : env.frame = some L) (hke : env.scope.kind = .function)
    (hP : ∀ g, (∀ b o, h₀.get? b = some o → g.get? b = some o) → (∀ p ∈ rest, g.get? p.1 = some p.2) → Pg g)
    (ret : ∀ n₀ h' tk' (XX : Led → Prop), Fr h₀ L h' m → Fresh n₀ (x ++ y) Rs → @LE.le Nat _ h₀.objs.size n₀ → (∀ A', XX A' → News h₀ L h' (A' ++ rest)) → Post n₀ fun A' r => XX A' → Q r { s with heap := h', toks := tk' }) :
    wpAny (model PG w) A₁ (call (.ref f) vs) Q E s :=
  wpAny_call (con_useC F B X N T S hc C h1 h2 hdp hun hh hfr hf hke hP ret)
theorem news_ends {g : Heap} {L : Addr} {h' : Heap} {A' : Led} (N : News g L h' A') : ∀ p ∈ A', h'.get? p.1 = some p.2 ∧ g.get? p.1 = none := fun p hp => ⟨(N p hp).1, (N p hp).2.2⟩
theorem News.pick {h₀ h : Heap} {L : Addr} {l l' : Led} (N : News h₀ L h l) (hs : ∀ p ∈ l', p ∈ l) : News h₀ L h l' := fun p hp => N p (hs p hp)
/-- the pieces of a list that are handed back, in order -/
inductive Sub {α : Type} : List α → List α → Prop
  | nil {l} : Sub l []
  | take {p l A} : Sub l A → Sub (p :: l) (p :: A)
  | keep {p l A} : Sub l A → Sub (p :: l) A
theorem Sub.mem {α : Type} {l A : List α} (h : Sub l A) : ∀ p ∈ A, p ∈ l := by
  induction h with
  | nil => intro p hp; cases hp
  | take _ ih => intro p hp; rcases List.mem_cons.mp hp with rfl | hp; exact .head _; exact .tail _ (ih p hp)
  | keep _ ih => exact fun p hp => .tail _ (ih p hp)
theorem Sub.sublist {α : Type} {l A : List α} (h : Sub l A) : A.Sublist l := by
  induction h with
  | nil => exact List.nil_sublist _
  | take _ ih => exact ih.cons_cons _
  | keep _ ih => exact ih.cons _
theorem nd_sub {as bs : List Nat} {Rs : Led} (S : Sep as Rs) (h : Sub as bs) : bs.Nodup := S.1.sublist h.sublist
/-- a choice of places without repeats out of addresses that differ -/
theorem nd_at {as : List Nat} {Rs : Led} (S : Sep as Rs) : ∀ {is bs : List Nat}, is.map (fun i => as[i]?) = bs.map some → is.Nodup → bs.Nodup
  | [], [], _, _ => .nil
  | [], _ :: _, e, _ => by cases e
  | _ :: _, [], e, _ => by cases e
  | i :: is, b :: bs, e, hi => by
    rw [List.map_cons, List.map_cons, List.cons.injEq] at e
    refine List.nodup_cons.mpr ⟨fun m => ?_, nd_at S e.2 (List.nodup_cons.mp hi).2⟩
    have m' : some b ∈ bs.map some := List.mem_map_of_mem m
    rw [← e.2] at m'
    obtain ⟨j, hj, e2⟩ := List.mem_map.mp m'
    have h1 : as[i]? = some b := e.1
    have h2 : as[j]? = some b := e2
    exact (List.nodup_cons.mp hi).1 ((List.getElem?_inj (List.getElem?_eq_some_iff.mp h1).1 S.1).mp (h1.trans h2.symm) ▸ hj)
theorem News.sub {h₀ h : Heap} {L : Addr} {l l' : Led} (N : News h₀ L h l) (hs : Sub l l') : News h₀ L h l' := fun p hp => N p (hs.mem p hp)
theorem News.drop {h₀ h : Heap} {L : Addr} {l : Led} (n : Nat) (N : News h₀ L h l) : News h₀ L h (l.drop n) := fun p hp => N p (List.mem_of_mem_drop hp)
theorem News.p9 {h₀ h : Heap} {L : Addr} {a b c d e f g x y : Addr × Obj} (N : News h₀ L h [a, b, c, d, e, f, g, x, y]) : News h₀ L h [f, g, e, c, d, b, a, x, y] := fun p hp => N p (by
  simp only [List.mem_cons, List.not_mem_nil, or_false] at hp ⊢
  rcases hp with h | h | h | h | h | h | h | h | h <;> simp [h])
theorem above_new {h₀ : Heap} {L : Addr} {h : Heap} {m : Str → Option Value} (F : Fr h₀ L h m) : @LE.le Nat _ h₀.objs.size h.objs.size := Nat.le_of_lt (Nat.lt_of_le_of_lt F.above F.ns.lt)
section
variable {M : Model} {A : Around} {E : Value → Shared → Prop} {s : Shared} {h₀ : Heap} {L : Addr} {m : Str → Option Value} {news Rs : Led} {as : List Nat} {vs : List Value} {Q : Value → Shared → Prop}
theorem newTuple_S (F : Fr h₀ L s.heap m) (N : News h₀ L s.heap news) (S : Sep as Rs) (h1 : adrs as.length news = as) (h2 : news.drop as.length = Rs)
    (h : ∀ l h', Fr h₀ L h' m → News h₀ L h' ((l, { cls := .type "tuple", data := .seq vs.toArray }) :: news) → Sep (l :: as) Rs → @LE.le Nat _ h₀.objs.size l → Q (.ref l) { s with heap := h' }) (hsz : vs.length ≤ sizeLine := by size_fits) : wpAny M A (newTuple vs) Q E s :=
  newTuple_N F N (fun h' F' N' => h _ h' F' N' (S.push (fun p hp => Heap.lt_size (N p hp).1) h1 h2) (above_new F)) hsz
theorem newList_S (F : Fr h₀ L s.heap m) (N : News h₀ L s.heap news) (S : Sep as Rs) (h1 : adrs as.length news = as) (h2 : news.drop as.length = Rs)
    (h : ∀ l h', Fr h₀ L h' m → News h₀ L h' ((l, listOf vs.toArray 0) :: news) → Sep (l :: as) Rs → @LE.le Nat _ h₀.objs.size l → Q (.ref l) { s with heap := h' }) (hsz : vs.length ≤ sizeLine := by size_fits) : wpAny M A (newList vs) Q E s :=
  newList_N F N (fun h' F' N' => h _ h' F' N' (S.push (fun p hp => Heap.lt_size (N p hp).1) h1 h2) (above_new F)) hsz
end
section
variable {prog : Program} {A : Around} {E : Value → Shared → Prop} {s : Shared} {h₀ : Heap} {L : Addr} {m : Str → Option Value} {news Rs : Led} {as : List Nat} {Q : Value → Shared → Prop}
theorem newDict_S {env : Env} {pos : Pos} (F : Fr h₀ L s.heap m) (N : News h₀ L s.heap news) (S : Sep as Rs) (h1 : adrs as.length news = as) (h2 : news.drop as.length = Rs) (hbig : h₀.NoLimit)
    (k : ∀ d h' o, Fr h₀ L h' m → News h₀ L h' ((d, o) :: news) → Sep (d :: as) Rs → @LE.le Nat _ h₀.objs.size d → (d == sysModules) = false → o.IsDictOf (PySem.intKind prog w) [] → PyProof.V.FlatPairs PyData.int [] [] → Q (.ref d) { s with heap := h' }) :
    wpAny (model prog w) A (eval (.Dict [] [] pos) env) Q E s :=
  Dict_empty_made2 F N (modules_low hbig) fun h' o F' N' lo _ _ c e _ => k _ h' o F' N' (S.push (fun p hp => Heap.lt_size (N p hp).1) h1 h2) (above_new F) lo c e
theorem list_copyS {l : Addr} {items : Array Value} (F : Fr h₀ L s.heap m) (N : News h₀ L s.heap news) (S : Sep as Rs) (h1 : adrs as.length news = as) (h2 : news.drop as.length = Rs) (hl : s.heap.IsList l items)
    (h : ∀ D c h', Fr h₀ L h' m → News h₀ L h' ((D, listOf items c) :: news) → Sep (D :: as) Rs → Q (.ref D) { s with heap := h' }) (hsz : items.size ≤ sizeLine) :
    wpAny (model prog w) A (call (.type "list") [.ref l]) Q E s :=
  list_copyK F N hl (fun D c h' F' N' l1 => h D c h' F' N' (S.push l1 h1 h2)) hsz
theorem dict_copyS {src : Addr} (F : Fr h₀ L s.heap m) (N : News h₀ L s.heap news) (S : Sep as Rs) (h1 : adrs as.length news = as) (h2 : news.drop as.length = Rs) (hbig : h₀.NoLimit) {D : List (PyData × PyData)} (T : TabAt (PySem.intKind prog w) PyData.int s.heap src D) (hsz : D.length ≤ sizeLine)
    (k : ∀ d h' o kvs, Fr h₀ L h' m → News h₀ L h' ((d, o) :: news) → Sep (d :: as) Rs → (d == sysModules) = false → o.IsDictOf (PySem.intKind prog w) kvs → PyProof.V.FlatPairs PyData.int kvs D → Q (.ref d) { s with heap := h' }) :
    wpAny (model prog w) A (call (.type "dict") [.ref src]) Q E s :=
  kt_dict_K F N hbig T hsz fun d h' o kvs F' N' l1 lo hd hf => k d h' o kvs F' N' (S.push l1 h1 h2) lo hd hf
theorem call_clsS {K : Frag} {C fI : Addr} {pos : List Value} {kw : List (Str × Value)} (F : Fr h₀ L s.heap m) (X₀ : K.In h₀) (N : News h₀ L s.heap news) (S : Sep as Rs) (h1 : adrs as.length news = as) (h2 : news.drop as.length = Rs) (hm : makesIn K C = true) (hi : findIn K (.ref C) "__init__" = some (some (.ref fI))) (hf : isFn K (.ref fI) = true)
    (h : ∀ x dx h', Fr h₀ L h' m → News h₀ L h' ((x, instObj C dx) :: (dx, dictOf [] 0) :: news) → Sep (x :: dx :: as) Rs → @LE.le Nat _ h₀.objs.size x → @LE.le Nat _ h₀.objs.size dx →
      codeAny (model prog w) (A.under (.builtin "type.__call__" ⟨.ref C :: pos, kw⟩)) (.call (.ref fI) ⟨.ref x :: pos, kw⟩) (InitBack x fun r s' => match r with | .ok (.ret v) => Q v s' | .ok _ => False | .error e => E e s') { s with heap := h' }) :
    wpAny (model prog w) A (call (.ref C) pos kw) Q E s := by
  obtain ⟨hh, g, d, t, os⟩ := s
  have X' : K.In hh := X₀.keeps F.keep
  have low : @LE.le Nat _ h₀.objs.size hh.objs.size := above_new F
  refine wpAny_call (make_core (makes_of X' hm) (looks_findIn X' hi) (fun self => bind_fn X' self (beq_iff_eq.mp hf)) (.inl rfl) (h _ hh.objs.size _ ((F.push _).push _) ?_ (S.push2 (fun p hp => Heap.lt_size (N p hp).1) (Nat.lt_succ_self _) h1 h2) (Nat.le_succ_of_le low) low))
  have N2 := (N.push F emptyDict).push (F.push _) (instObj C hh.objs.size)
  rw [Heap.size_push] at N2
  exact N2
end
abbrev ent (w : World) (n : String) (t : Tok) (v : Value) : DictEntry := ⟨PyData.keyHash w.params (Str.ofString n), .str (Str.ofString n) t, v⟩
abbrev tupOf (vs : List Value) : Obj := { cls := .type "tuple", data := .seq vs.toArray }
theorem ret_int {R : Result → Shared → Prop} {s : Shared} {a b : Int} {t : Tok} (h : a = b) (hR : R (.ok (.ret (.int a t))) s) : R (.ok (.ret (.int b t))) s := h ▸ hR
theorem int_eq {a b : Int} {t : Tok} (h : a = b) : Value.int a t = Value.int b t := by rw [h]
theorem room1 {d D' D : Nat} (h : d ≤ D') (e : Nat.ble (D' + 1) D = true) : d + 1 ≤ D := Nat.le_trans (Nat.add_le_add_right h 1) (Nat.le_of_ble_eq_true e)
theorem room2 {d D' D : Nat} (h : d ≤ D') (e : Nat.ble (D' + 2) D = true) : d + 1 + 1 ≤ D := Nat.le_trans (Nat.add_le_add_right h 2) (Nat.le_of_ble_eq_true e)
theorem room3 {d D' D : Nat} (h : d ≤ D') (e : Nat.ble (D' + 3) D = true) : d + 1 + 1 + 1 ≤ D := Nat.le_trans (Nat.add_le_add_right h 3) (Nat.le_of_ble_eq_true e)
end
def DictOK (n : Nat) (es : List DictEntry) : Prop := es.any (·.refKey) = false ∧ es.length ≤ n
theorem DictOK.isSome {n : Nat} {es : List DictEntry} {name : Str} (h : DictOK n es) : (getL name es).isSome = true := by
  unfold getL
  split
  · rfl
  · rw [h.1]; rfl
theorem DictOK.len {n : Nat} {es : List DictEntry} (h : DictOK n es) (hn : n ≤ 1000) : es.length ≤ 1000 := Nat.le_trans h.2 hn
theorem putL_any {name : Str} {hsh : Int} {t : Tok} {v : Value} : ∀ {es : List DictEntry}, es.any (·.refKey) = false → (putL name hsh (.str name t) v es).any (·.refKey) = false
  | [], _ => rfl
  | e :: r, h => by
    rw [List.any_cons, Bool.or_eq_false_iff] at h
    unfold putL
    split
    · rw [List.any_cons, Bool.or_eq_false_iff]; exact ⟨h.1, h.2⟩
    · rw [List.any_cons, Bool.or_eq_false_iff]; exact ⟨h.1, putL_any h.2⟩
theorem putL_len {name : Str} {hsh : Int} {key v : Value} : ∀ {es : List DictEntry}, (putL name hsh key v es).length ≤ es.length + 1
  | [] => Nat.le_refl _
  | e :: r => by
    unfold putL
    split
    · simp
    · have := putL_len (name := name) (hsh := hsh) (key := key) (v := v) (es := r)
      simp only [List.length_cons]; omega
theorem DictOK.put {n : Nat} {es : List DictEntry} {name : Str} {hsh : Int} {t : Tok} {v : Value} (h : DictOK n es) : DictOK (n + 1) (putL name hsh (.str name t) v es) :=
  ⟨putL_any h.1, Nat.le_trans putL_len (Nat.add_le_add_right h.2 1)⟩
theorem getL_hit {name : Str} {hsh : Int} {t : Tok} {v : Value} : ∀ {es : List DictEntry}, getL name (putL name hsh (.str name t) v es) = some (some v)
  | [] => by simp [getL, putL, Value.isStr]
  | e :: r => by
    unfold putL
    split
    · rename_i h; simp [getL, h]
    · rename_i h
      have ih := getL_hit (name := name) (hsh := hsh) (t := t) (v := v) (es := r)
      unfold getL at ih ⊢
      rw [List.find?_cons, Bool.not_eq_true _ |>.mp h]
      split at ih
      · rename_i q; rw [q]; exact ih
      · split at ih <;> cases ih
def glOf (F : Option DictEntry) (B : Bool) : Option (Option Value) := match F with
  | some e => some (some e.val)
  | none => if B then none else some none
theorem getL_gl (name : Str) (es : List DictEntry) : getL name es = glOf (es.find? (·.key.isStr name)) (es.any (·.refKey)) := rfl
theorem glOf_or {F1 F2 : Option DictEntry} {B1 B2 : Bool} (B3 : Bool) (h : glOf F1 B1 = glOf F2 B2) : glOf F1 (B3 || B1) = glOf F2 (B3 || B2) := by
  cases F1 <;> cases F2 <;> cases B1 <;> cases B2 <;> cases B3 <;> simp_all [glOf]
theorem getL_miss {name other : Str} {hsh : Int} {t : Tok} {v : Value} (hne : other ≠ name) : ∀ {es : List DictEntry}, getL name (putL other hsh (.str other t) v es) = getL name es
  | [] => by
    have : (other == name) = false := by simpa using hne
    simp [getL, putL, Value.isStr, this, DictEntry.refKey]
  | e :: r => by
    unfold putL
    split
    · rename_i h
      have h2 : e.key.isStr name = false := by
        cases hk : e.key with
        | str s t =>
          rw [hk] at h
          have : s = other := by simpa [Value.isStr] using h
          subst this
          simpa [Value.isStr] using hne
        | _ => rfl
      simp [getL, h2, DictEntry.refKey]
    · have ih := getL_miss (hsh := hsh) (t := t) (v := v) hne (es := r)
      rw [getL_gl, getL_gl] at ih ⊢
      rw [List.find?_cons, List.find?_cons]
      cases hk : e.key.isStr name with
      | true => rfl
      | false =>
        simp only [List.any_cons]
        exact glOf_or _ ih
structure CoderD0 (es : List DictEntry) (ty b p : Addr) : Prop where
  ok : DictOK 30 es
  types : getL (Str.ofString "types") es = some (some (.ref ty))
  buf : getL (Str.ofString "buf") es = some (some (.ref b))
  pool : getL (Str.ofString "pool") es = some (some (.ref p))
  m1 : getL (Str.ofString "take") es = some none
  m2 : getL (Str.ofString "release") es = some none
  m3 : getL (Str.ofString "temp") es = some none
  m4 : getL (Str.ofString "reach_out") es = some none
  m5 : getL (Str.ofString "frame_size") es = some none
  m6 : getL (Str.ofString "enter") es = some none
structure CoderD (es : List DictEntry) (ty b p ft : Addr) (low lowest out : Int) : Prop where
  ok : DictOK 60 es
  types : getL (Str.ofString "types") es = some (some (.ref ty))
  buf : getL (Str.ofString "buf") es = some (some (.ref b))
  pool : getL (Str.ofString "pool") es = some (some (.ref p))
  ft : getL (Str.ofString "free_temps") es = some (some (.ref ft))
  low : ∃ t, getL (Str.ofString "low") es = some (some (.int low t))
  lowest : ∃ t, getL (Str.ofString "lowest") es = some (some (.int lowest t))
  out : ∃ t, getL (Str.ofString "out_words") es = some (some (.int out t))
  m1 : getL (Str.ofString "take") es = some none
  m2 : getL (Str.ofString "release") es = some none
  m3 : getL (Str.ofString "temp") es = some none
  m4 : getL (Str.ofString "reach_out") es = some none
  m5 : getL (Str.ofString "frame_size") es = some none
  m6 : getL (Str.ofString "enter") es = some none
theorem DictOK.mono {n m : Nat} {es : List DictEntry} (h : DictOK n es) (hn : n ≤ m) : DictOK m es := ⟨h.1, Nat.le_trans h.2 hn⟩
theorem getL_miss' {n o : String} {hsh : Int} {t : Tok} {v : Value} {es : List DictEntry} {r : Option (Option Value)} (hne : Str.ofString o ≠ Str.ofString n) (h : getL (Str.ofString n) es = r) : getL (Str.ofString n) (putL (Str.ofString o) hsh (.str (Str.ofString o) t) v es) = r :=
  (getL_miss hne).trans h
theorem getL_hitI {name : Str} {hsh : Int} {t tk : Tok} {a b : Int} {es : List DictEntry} (h : a = b) : ∃ t', getL name (putL name hsh (.str name t) (.int a tk) es) = some (some (.int b t')) := ⟨tk, by rw [getL_hit, h]⟩
theorem putL_len_hit {name : Str} {hsh : Int} {key v : Value} : ∀ {es : List DictEntry}, es.any (·.key.isStr name) = true → (putL name hsh key v es).length = es.length
  | [], h => by simp at h
  | e :: r, h => by
    unfold putL
    split
    · rfl
    · rename_i q
      rw [List.any_cons] at h
      simp only [Bool.or_eq_true] at h
      rcases h with h | h
      · exact absurd h q
      · simp only [List.length_cons]; rw [putL_len_hit h]
theorem any_of_getL {name : Str} {u : Value} {es : List DictEntry} (h : getL name es = some (some u)) : es.any (·.key.isStr name) = true := by
  unfold getL at h
  split at h
  · rename_i e he
    exact List.any_eq_true.mpr ⟨e, List.mem_of_find?_eq_some he, by have := List.find?_some he; exact this⟩
  · split at h <;> cases h
theorem DictOK.putHit {n : Nat} {es : List DictEntry} {name : Str} {hsh : Int} {t : Tok} {v u : Value} (h : DictOK n es) (hg : getL name es = some (some u)) : DictOK n (putL name hsh (.str name t) v es) :=
  ⟨putL_any h.1, by rw [putL_len_hit (any_of_getL hg)]; exact h.2⟩
structure ItemD (es : List DictEntry) : Prop where
  ok : DictOK 30 es
  mode : ∃ t, getL (Str.ofString "mode") es = some (some (.str (Str.ofString "reg") t))
  reg : ∃ v, getL (Str.ofString "reg") es = some (some v)
theorem putL_head {n : String} {t t' : Tok} {v v' : Value} {w : World} {r : List DictEntry} : putL (Str.ofString n) (PyData.keyHash w.params (Str.ofString n)) (.str (Str.ofString n) t') v' (ent w n t v :: r) = ent w n t v' :: r := by
  simp [putL, Value.isStr]
theorem getL_head {n : String} {t : Tok} {v : Value} {w : World} {r : List DictEntry} : getL (Str.ofString n) (ent w n t v :: r) = some (some v) := by
  simp [getL, Value.isStr]
theorem putN_head {n : String} {t : Tok} {v : Value} {w : World} {r : List DictEntry} {k : Nat} : putN (Str.ofString n) (ent w n t v :: r) k = k := by
  simp [putN, Value.isStr]
/-- the rows, as plain data -/
inductive Ins where
  | str (a b k : Int)
  | ldr (a b k : Int)
  | br (b : Int)
  | bne (d : Int)
  | mov (a c : Int)
  | movi (a k : Int)
  | addi (a b k : Int)
  | subi (a b k : Int)
def InsIs : Ins → List Value → Prop
  | .str a b k, vs => ∃ t1 t2 t3 t4, vs = [.str (Str.ofString "STR") t1, .int a t2, .int b t3, .int k t4]
  | .ldr a b k, vs => ∃ t1 t2 t3 t4, vs = [.str (Str.ofString "LDR") t1, .int a t2, .int b t3, .int k t4]
  | .br b, vs => ∃ t1 t2 t3 t4, vs = [.str (Str.ofString "BR") t1, .str (Str.ofString "AL") t2, .int b t3, .int 0 t4]
  | .bne d, vs => ∃ t1 t2 t3 t4, vs = [.str (Str.ofString "B") t1, .str (Str.ofString "NE") t2, .int d t3, .int 0 t4]
  | .mov a c, vs => ∃ t1 t2 t3 t4, vs = [.str (Str.ofString "MOV") t1, .int a t2, .int 0 t3, .int c t4]
  | .movi a k, vs => ∃ t1 t2 t3 t4, vs = [.str (Str.ofString "MOVI") t1, .int a t2, .int 0 t3, .int k t4]
  | .addi a b k, vs => ∃ t1 t2 t3 t4, vs = [.str (Str.ofString "ADDI") t1, .int a t2, .int b t3, .int k t4]
  | .subi a b k, vs => ∃ t1 t2 t3 t4, vs = [.str (Str.ofString "SUBI") t1, .int a t2, .int b t3, .int k t4]
/-- the rows' objects in a ledger -/
inductive RowsIn (T : List (Addr × Obj)) : List Value → List Ins → Prop where
  | nil : RowsIn T [] []
  | cons {a : Addr} {ws : List Value} {x : Ins} {vs : List Value} {is : List Ins} : (a, tupOf ws) ∈ T → InsIs x ws → RowsIn T vs is → RowsIn T (.ref a :: vs) (x :: is)
theorem RowsIn.mono {T T' : List (Addr × Obj)} (hs : ∀ p ∈ T, p ∈ T') {vs : List Value} {is : List Ins} (h : RowsIn T vs is) : RowsIn T' vs is := by
  induction h with
  | nil => exact .nil
  | cons hm hi _ ih => exact .cons (hs _ hm) hi ih
theorem RowsIn.append {T : List (Addr × Obj)} {vs vs' : List Value} {is is' : List Ins} (h : RowsIn T vs is) (h' : RowsIn T vs' is') : RowsIn T (vs ++ vs') (is ++ is') := by
  induction h with
  | nil => exact h'
  | cons hm hi _ ih => exact .cons hm hi ih
theorem RowsIn.length {T : List (Addr × Obj)} {vs : List Value} {is : List Ins} (h : RowsIn T vs is) : vs.length = is.length := by
  induction h with
  | nil => rfl
  | cons _ _ _ ih => simp [ih]
theorem RowsIn.at {T : List (Addr × Obj)} {vs : List Value} {is : List Ins} (h : RowsIn T vs is) : ∀ (i : Nat) (x : Ins), is[i]? = some x → ∃ a ws, vs[i]? = some (.ref a) ∧ (a, tupOf ws) ∈ T ∧ InsIs x ws := by
  induction h with
  | nil => intro i x h; simp at h
  | cons hm hi _ ih =>
    intro i x h
    cases i with
    | zero => simp at h; subst h; exact ⟨_, _, by simp, hm, hi⟩
    | succ i => simp at h; obtain ⟨a, ws, h1, h2, h3⟩ := ih i x h; exact ⟨a, ws, by simpa using h1, h2, h3⟩
/-- the rows of zero_words -/
def zstrs (off : Int) : Nat → Int → List Ins
  | 0, _ => []
  | n + 1, i => .str 10 11 (off + 4 * i) :: zstrs off n (i + 1)
def zrows (off : Int) (words : Nat) : List Ins :=
  if words = 0 then [] else if words ≤ 4 then .movi 10 0 :: zstrs off words 0
  else [.movi 10 0, .addi 12 11 off, .movi 0 words, .str 10 12 0, .addi 12 12 4, .subi 0 0 1, .bne (-4)]
theorem ins_str {a b k k' : Int} {t1 t2 t3 t4 : Tok} (e : k' = k) : InsIs (.str a b k) [.str (Str.ofString "STR") t1, .int a t2, .int b t3, .int k' t4] := ⟨t1, t2, t3, t4, by rw [e]⟩
theorem ins_ldr {a b k k' : Int} {t1 t2 t3 t4 : Tok} (e : k' = k) : InsIs (.ldr a b k) [.str (Str.ofString "LDR") t1, .int a t2, .int b t3, .int k' t4] := ⟨t1, t2, t3, t4, by rw [e]⟩
theorem ins_addi {a b k k' : Int} {t1 t2 t3 t4 : Tok} (e : k' = k) : InsIs (.addi a b k) [.str (Str.ofString "ADDI") t1, .int a t2, .int b t3, .int k' t4] := ⟨t1, t2, t3, t4, by rw [e]⟩
theorem ins_subi {a b k k' : Int} {t1 t2 t3 t4 : Tok} (e : k' = k) : InsIs (.subi a b k) [.str (Str.ofString "SUBI") t1, .int a t2, .int b t3, .int k' t4] := ⟨t1, t2, t3, t4, by rw [e]⟩
theorem ins_movi {a k k' : Int} {t1 t2 t3 t4 : Tok} (e : k' = k) : InsIs (.movi a k) [.str (Str.ofString "MOVI") t1, .int a t2, .int 0 t3, .int k' t4] := ⟨t1, t2, t3, t4, by rw [e]⟩
theorem ins_mov {a k : Int} {t1 t2 t3 t4 : Tok} : InsIs (.mov a k) [.str (Str.ofString "MOV") t1, .int a t2, .int 0 t3, .int k t4] := ⟨t1, t2, t3, t4, rfl⟩
theorem ins_br {b : Int} {t1 t2 t3 t4 : Tok} : InsIs (.br b) [.str (Str.ofString "BR") t1, .str (Str.ofString "AL") t2, .int b t3, .int 0 t4] := ⟨t1, t2, t3, t4, rfl⟩
theorem ins_bne {d d' : Int} {t1 t2 t3 t4 : Tok} (e : d' = d) : InsIs (.bne d) [.str (Str.ofString "B") t1, .str (Str.ofString "NE") t2, .int d' t3, .int 0 t4] := ⟨t1, t2, t3, t4, by rw [e]⟩
theorem zrows_many {off : Int} {n : Nat} (h : 5 ≤ n) : zrows off n = [.movi 10 0, .addi 12 11 off, .movi 0 n, .str 10 12 0, .addi 12 12 4, .subi 0 0 1, .bne (-4)] := by
  unfold zrows
  rw [if_neg (by omega), if_neg (by omega)]
local macro_rules | `(tactic| walk_at $s:str) => `(tactic| k_extra $s)
local macro_rules | `(tactic| k_lt $h:ident) => `(tactic| ((with_reducible rename Sep _ _ => S9); k_dflt (have S8 := Sep.push S9 $h rfl rfl); (clear S9); (clear $h)))
local macro_rules | `(tactic| k_upd) => `(tactic| walk_at "upd")
local macro_rules | `(tactic| k_updF) => `(tactic| walk_at "updF")
local macro_rules | `(tactic| k_room) => `(tactic| ((try simp only [depth_under_make, depth_under_kw, depth_in1, depth_deeper, depth_caller]); (try dsimp only); (try simp only [recursionLimit]); omega))
theorem rows_n1 : True := by
  w_top off
  k_with_none
  k_with "setat" => first | exact SetAt.head | (apply SetAt.tail; walk_at "setat")
  k_with "setF" => first | exact SetF.head | (apply SetF.tail; walk_at "setF")
  k_with "upd" => k_dflt (exact upd_sep (by with_reducible assumption) (by walk_at "setat") (by exact rfl) (by exact rfl))
  k_with "updF" => first | k_dflt (exact updF_sep (by with_reducible assumption) (by walk_at "setF") (by exact rfl) (by exact rfl)) | walk_at "updF2"
  k_with "cut" => first | exact Cut.nil | (apply Cut.take; walk_at "cut") | (apply Cut.keep; walk_at "cut")
  k_with "sub" => first | exact Sub.nil | (apply Sub.take; walk_at "sub") | (apply Sub.keep; walk_at "sub")
  k_with "con in" => repeat' (first | exact List.forall_mem_nil _ | refine List.forall_mem_cons.mpr ⟨by k_mem, ?_⟩)
  k_with "execs cons" => (k_here; (try k_made); (try k_gentoks); (refine wpAny_execs_cons (s := Shared.mk _ (Shared.gens s) (Shared.drawn s) _ (Shared.os s)) ?_); (try dsimp only); (try k_fold))
  k_with "con fill" => ((have hfill : PySem.Challenge.rw_pq0756_01 = PySem.Challenge.rw_pq0756_01 ∧ _root_.Mine.hd.heap_39 = _root_.Mine.hd.heap_39 := by (k_fill; exact ⟨rfl, rfl⟩)); clear hfill)
  k_with "con enter" => (refine' enter_def (w := _) (by assumption) (by assumption) (by assumption) (by assumption) (by assumption) (by assumption) (by assumption) (by (simp only [recursionLimit]; omega)) (by k_is) (by k_is) (by first | exact BindsTo.of_eq rfl | (refine' binds_K (by (refine' Frag.In.keeps (by assumption) (by assumption))) (by exact rfl) (by k_is) (by exact rfl) (by exact rfl) (by exact rfl)) | fail "con_enter: no rule for these arguments") (by exact locs rfl) (by exact rfl) ?_ (by exact rfl) (by exact rfl) (by exact rfl) (by decide); k_whole; intro L' h' Q9 E9 F' N' S' hE9 hQ9; (dsimp only [adrs, List.length_cons, List.length_nil] at S'); (try dsimp only))
  k_with "newTuple" => (k_here; (with_reducible rename Sep _ _ => S9); k_dflt (refine' newTuple_S (by k_asm) (by k_asm) S9 (by exact rfl) (by exact rfl) ?_; k_whole); intro l' h' F' N' S' l4; (try clear S9); (try k_sweep))
  k_with "newList" => (k_here; (with_reducible rename Sep _ _ => S9); k_dflt (refine' newList_S (by k_asm) (by k_asm) S9 (by exact rfl) (by exact rfl) ?_; k_whole); intro l' h' F' N' S' l4; (try clear S9); (try k_sweep))
  k_with "call ref" => (k_here; (with_reducible show wpAny _ _ (call (Value.ref _) _ _) _ _ _); (with_reducible rename Sep _ _ => S9); k_dflt (refine' call_clsS (by k_asm) (by k_asm) (by k_asm) S9 (by exact rfl) (by exact rfl) (by k_is) (by k_is) (by k_is) ?_; k_whole; intro x' d' h' F' N' S' l8 l9; (clear S9); (try k_sweep); k_enter))
  k_with "eval Dict nil nil" => (k_here; (with_reducible rename Sep _ _ => S9); k_dflt (refine' newDict_S (by k_asm) (by k_asm) S9 (by exact rfl) (by exact rfl) (TopRead.nolimit (by k_asm)) ?_; k_whole); intro d' h' o' F' N' S' l4 lo' hi' fi'; (try clear S9); (try k_sweep))
  k_with "call type:list" => (k_here; (with_reducible show wpAny _ _ (call (Value.type "list") [Value.ref _]) _ _ _); (with_reducible rename Sep _ _ => S9); k_dflt (refine' list_copyS (by k_asm) (by k_asm) S9 (by exact rfl) (by exact rfl) (by is_list) ?_ (by first | size_fits | ((rw [List.size_toArray, sizeLine_eq]); (simp only [List.length_append, List.length_cons, List.length_nil]); omega)); k_whole); intro D' c' h' F' N' S'; (try clear S9); (try k_sweep))
  k_with "con room" => first | k_dflt (exact Nat.le_of_ble_eq_true rfl) | k_dflt (exact room1 (by with_reducible assumption) rfl) | k_dflt (exact room2 (by with_reducible assumption) rfl) | k_dflt (exact room3 (by with_reducible assumption) rfl) | ((try simp only [depth_under_make, depth_under_kw, depth_in1, depth_deeper, depth_caller, units_in1, units_deeper, units_under_make, Around.mark_units, units_caller]); (try dsimp only); omega) | ((try simp only [Code.weight, Code.frames, Code.isCreation, Code.isGuard, Code.isCaller, Code.cUnits]); (try dsimp only); omega)
  k_with "call builtin:len" => (k_here; (with_reducible show wpAny _ _ (call (Value.builtin "len") [Value.ref _]) _ _ _); k_dflt (refine' kst_len (by k_asm) (by k_mem) rfl (by ((try simp only [List.length_append, List.length_cons, List.length_nil]); omega)) ?_; k_whole))
  trivial
abbrev put_post (w : World) (b bd R : Addr) (vs : List Value) (nn nd : Nat) (t : Tok) (nm x y z : Value) : PostT := fun n G => ∀ (a : Addr) (tk : Tok), @LE.le Nat _ n a → G ([(a, tupOf [nm, x, y, z]), (b, instObj 143 bd), (bd, dictOf [ent w "rows" t (.ref R)] nd), (R, listOf (vs ++ [Value.ref a]).toArray (nn + 1))]) (.int vs.length tk)
set_option maxHeartbeats 16000000 in
theorem put_ok (w : World) (mean : ExcName → Option Value) (mg mb : Str → Option Value) (b bd R : Addr) (vs : List Value) (nn nd : Nat) (t : Tok) (nm x y z : Value) (hz : vs.length ≤ 1000) :
    Con w mean mg mb 900 98 [.ref b, nm, x, y, z] (fun _ => True) [(b, instObj 143 bd), (bd, dictOf [ent w "rows" t (.ref R)] nd), (R, listOf (vs).toArray nn)] (put_post w b bd R vs nn nd t nm x y z) := by
  walk_at "con fill"
  intro dp un gd frames base g s RR B X T hd hu hp hsz hk hA hn ret
  walk_at "con enter"
  k_steps
  (try dsimp only)
  rename Fr _ _ _ _ => F9
  rename News _ _ _ _ => N9
  exact hQ9 _ _ (ret_int (by simp) (ret _ _ F9.keep _ _ (by assumption) (news_ends N9)))
theorem rows_n2 : True := by
  w_top off
  k_with_none
  k_with "setat" => first | exact SetAt.head | (apply SetAt.tail; walk_at "setat")
  k_with "setF" => first | exact SetF.head | (apply SetF.tail; walk_at "setF")
  k_with "upd" => k_dflt (exact upd_sep (by with_reducible assumption) (by walk_at "setat") (by exact rfl) (by exact rfl))
  k_with "updF" => first | k_dflt (exact updF_sep (by with_reducible assumption) (by walk_at "setF") (by exact rfl) (by exact rfl)) | walk_at "updF2"
  k_with "cut" => first | exact Cut.nil | (apply Cut.take; walk_at "cut") | (apply Cut.keep; walk_at "cut")
  k_with "sub" => first | exact Sub.nil | (apply Sub.take; walk_at "sub") | (apply Sub.keep; walk_at "sub")
  k_with "con in" => repeat' (first | exact List.forall_mem_nil _ | refine List.forall_mem_cons.mpr ⟨by k_mem, ?_⟩)
  k_with "execs cons" => (k_here; (try k_made); (try k_gentoks); (refine wpAny_execs_cons (s := Shared.mk _ (Shared.gens s) (Shared.drawn s) _ (Shared.os s)) ?_); (try dsimp only); (try k_fold))
  k_with "con fill" => ((have hfill : PySem.Challenge.rw_pq0756_01 = PySem.Challenge.rw_pq0756_01 ∧ _root_.Mine.hd.heap_39 = _root_.Mine.hd.heap_39 := by (k_fill; exact ⟨rfl, rfl⟩)); clear hfill)
  k_with "con enter" => (refine' enter_def (w := _) (by assumption) (by assumption) (by assumption) (by assumption) (by assumption) (by assumption) (by assumption) (by (simp only [recursionLimit]; omega)) (by k_is) (by k_is) (by first | exact BindsTo.of_eq rfl | (refine' binds_K (by (refine' Frag.In.keeps (by assumption) (by assumption))) (by exact rfl) (by k_is) (by exact rfl) (by exact rfl) (by exact rfl)) | fail "con_enter: no rule for these arguments") (by exact locs rfl) (by exact rfl) ?_ (by exact rfl) (by exact rfl) (by exact rfl) (by decide); k_whole; intro L' h' Q9 E9 F' N' S' hE9 hQ9; (dsimp only [adrs, List.length_cons, List.length_nil] at S'); (try dsimp only))
  k_with "newTuple" => (k_here; (with_reducible rename Sep _ _ => S9); k_dflt (refine' newTuple_S (by k_asm) (by k_asm) S9 (by exact rfl) (by exact rfl) ?_; k_whole); intro l' h' F' N' S' l4; (try clear S9); (try k_sweep))
  k_with "newList" => (k_here; (with_reducible rename Sep _ _ => S9); k_dflt (refine' newList_S (by k_asm) (by k_asm) S9 (by exact rfl) (by exact rfl) ?_; k_whole); intro l' h' F' N' S' l4; (try clear S9); (try k_sweep))
  k_with "call ref" => (k_here; (with_reducible show wpAny _ _ (call (Value.ref _) _ _) _ _ _); (with_reducible rename Sep _ _ => S9); k_dflt (refine' call_clsS (by k_asm) (by k_asm) (by k_asm) S9 (by exact rfl) (by exact rfl) (by k_is) (by k_is) (by k_is) ?_; k_whole; intro x' d' h' F' N' S' l8 l9; (clear S9); (try k_sweep); k_enter))
  k_with "eval Dict nil nil" => (k_here; (with_reducible rename Sep _ _ => S9); k_dflt (refine' newDict_S (by k_asm) (by k_asm) S9 (by exact rfl) (by exact rfl) (TopRead.nolimit (by k_asm)) ?_; k_whole); intro d' h' o' F' N' S' l4 lo' hi' fi'; (try clear S9); (try k_sweep))
  k_with "call type:list" => (k_here; (with_reducible show wpAny _ _ (call (Value.type "list") [Value.ref _]) _ _ _); (with_reducible rename Sep _ _ => S9); k_dflt (refine' list_copyS (by k_asm) (by k_asm) S9 (by exact rfl) (by exact rfl) (by is_list) ?_ (by first | size_fits | ((rw [List.size_toArray, sizeLine_eq]); (simp only [List.length_append, List.length_cons, List.length_nil]); omega)); k_whole); intro D' c' h' F' N' S'; (try clear S9); (try k_sweep))
  k_with "con room" => first | k_dflt (exact Nat.le_of_ble_eq_true rfl) | k_dflt (exact room1 (by with_reducible assumption) rfl) | k_dflt (exact room2 (by with_reducible assumption) rfl) | k_dflt (exact room3 (by with_reducible assumption) rfl) | ((try simp only [depth_under_make, depth_under_kw, depth_in1, depth_deeper, depth_caller, units_in1, units_deeper, units_under_make, Around.mark_units, units_caller]); (try dsimp only); omega) | ((try simp only [Code.weight, Code.frames, Code.isCreation, Code.isGuard, Code.isCaller, Code.cUnits]); (try dsimp only); omega)
  k_with "call builtin:len" => (k_here; (with_reducible show wpAny _ _ (call (Value.builtin "len") [Value.ref _]) _ _ _); k_dflt (refine' kst_len (by k_asm) (by k_mem) rfl (by ((try simp only [List.length_append, List.length_cons, List.length_nil]); omega)) ?_; k_whole))
  trivial
theorem words_n21 : True := by
  k_with "call ref" => (k_here; (with_reducible show wpAny _ _ (call (Value.ref 98) _) _ _ _); (with_reducible rename Sep _ _ => S9); k_dflt (refine' con_use (by k_asm) (by k_asm) (by k_asm) (by k_asm) (by k_asm) S9 (by walk_at "cut") (put_ok _ _ _ _ _ _ _ _ _ _ _ _ _ _ _ (by first | assumption | omega | ((simp only [List.length_append, List.length_cons, List.length_nil]); omega))) (by exact rfl) (by exact rfl) (by walk_at "con room") (by walk_at "con room") (by exact rfl) (by exact rfl) (by exact rfl) (by first | assumption | exact rfl) (by exact fun _ _ _ => True.intro) ?_; k_whole); (intro n' h' tk' XX' F' fr' l4 lf'); (intro a' tk' l5 hX'); (have N' := lf' _ hX'); (clear hX'); (clear lf'); (clear XX'); (have S' := Fresh.one fr' l5); (clear fr'); (replace l5 := Nat.le_trans l4 l5); (dsimp only [List.cons_append, List.nil_append] at N' S'); (try clear S9); (try dsimp only); (try k_sweep))
  trivial
abbrev back_post (w : World) (b bd R : Addr) (vs : List Value) (nn nd : Nat) (t tt : Tok) (cond : Value) (target : Int) : PostT := fun n G => ∀ (a : Addr) (tk t1 t2 t3 : Tok), @LE.le Nat _ n a → G ([(a, tupOf [.str (Str.ofString "B") t1, cond, .int (target - vs.length - 1) t2, .int 0 t3]), (b, instObj 143 bd), (bd, dictOf [ent w "rows" t (.ref R)] nd), (R, listOf (vs ++ [Value.ref a]).toArray (nn + 1))]) (.int vs.length tk)
set_option maxHeartbeats 16000000 in
theorem back_ok (w : World) (mean : ExcName → Option Value) (mg mb : Str → Option Value) (b bd R : Addr) (vs : List Value) (nn nd : Nat) (t tt : Tok) (cond : Value) (target : Int) (hz : vs.length ≤ 1000) :
    Con w mean mg mb 850 133 [.ref b, cond, .int target tt] (fun _ => True) [(b, instObj 143 bd), (bd, dictOf [ent w "rows" t (.ref R)] nd), (R, listOf (vs).toArray nn)] (back_post w b bd R vs nn nd t tt cond target) := by
  walk_at "con fill"
  intro dp un gd frames base g s RR B X T hd hu hp hsz hk hA hn ret
  walk_at "con enter"
  k_steps
  (try dsimp only)
  rename Fr _ _ _ _ => F9
  rename News _ _ _ _ => N9
  exact hQ9 _ _ (ret_int (by simp) (ret _ _ F9.keep _ _ _ _ _ (by assumption) (news_ends N9)))
theorem rows_n3 : True := by
  w_top off
  k_with_none
  k_with "setat" => first | exact SetAt.head | (apply SetAt.tail; walk_at "setat")
  k_with "setF" => first | exact SetF.head | (apply SetF.tail; walk_at "setF")
  k_with "upd" => k_dflt (exact upd_sep (by with_reducible assumption) (by walk_at "setat") (by exact rfl) (by exact rfl))
  k_with "updF" => first | k_dflt (exact updF_sep (by with_reducible assumption) (by walk_at "setF") (by exact rfl) (by exact rfl)) | walk_at "updF2"
  k_with "cut" => first | exact Cut.nil | (apply Cut.take; walk_at "cut") | (apply Cut.keep; walk_at "cut")
  k_with "sub" => first | exact Sub.nil | (apply Sub.take; walk_at "sub") | (apply Sub.keep; walk_at "sub")
  k_with "con in" => repeat' (first | exact List.forall_mem_nil _ | refine List.forall_mem_cons.mpr ⟨by k_mem, ?_⟩)
  k_with "execs cons" => (k_here; (try k_made); (try k_gentoks); (refine wpAny_execs_cons (s := Shared.mk _ (Shared.gens s) (Shared.drawn s) _ (Shared.os s)) ?_); (try dsimp only); (try k_fold))
  k_with "con fill" => ((have hfill : PySem.Challenge.rw_pq0756_01 = PySem.Challenge.rw_pq0756_01 ∧ _root_.Mine.hd.heap_39 = _root_.Mine.hd.heap_39 := by (k_fill; exact ⟨rfl, rfl⟩)); clear hfill)
  k_with "con enter" => (refine' enter_def (w := _) (by assumption) (by assumption) (by assumption) (by assumption) (by assumption) (by assumption) (by assumption) (by (simp only [recursionLimit]; omega)) (by k_is) (by k_is) (by first | exact BindsTo.of_eq rfl | (refine' binds_K (by (refine' Frag.In.keeps (by assumption) (by assumption))) (by exact rfl) (by k_is) (by exact rfl) (by exact rfl) (by exact rfl)) | fail "con_enter: no rule for these arguments") (by exact locs rfl) (by exact rfl) ?_ (by exact rfl) (by exact rfl) (by exact rfl) (by decide); k_whole; intro L' h' Q9 E9 F' N' S' hE9 hQ9; (dsimp only [adrs, List.length_cons, List.length_nil] at S'); (try dsimp only))
  k_with "newTuple" => (k_here; (with_reducible rename Sep _ _ => S9); k_dflt (refine' newTuple_S (by k_asm) (by k_asm) S9 (by exact rfl) (by exact rfl) ?_; k_whole); intro l' h' F' N' S' l4; (try clear S9); (try k_sweep))
  k_with "newList" => (k_here; (with_reducible rename Sep _ _ => S9); k_dflt (refine' newList_S (by k_asm) (by k_asm) S9 (by exact rfl) (by exact rfl) ?_; k_whole); intro l' h' F' N' S' l4; (try clear S9); (try k_sweep))
  k_with "call ref" => (k_here; (with_reducible show wpAny _ _ (call (Value.ref _) _ _) _ _ _); (with_reducible rename Sep _ _ => S9); k_dflt (refine' call_clsS (by k_asm) (by k_asm) (by k_asm) S9 (by exact rfl) (by exact rfl) (by k_is) (by k_is) (by k_is) ?_; k_whole; intro x' d' h' F' N' S' l8 l9; (clear S9); (try k_sweep); k_enter))
  k_with "eval Dict nil nil" => (k_here; (with_reducible rename Sep _ _ => S9); k_dflt (refine' newDict_S (by k_asm) (by k_asm) S9 (by exact rfl) (by exact rfl) (TopRead.nolimit (by k_asm)) ?_; k_whole); intro d' h' o' F' N' S' l4 lo' hi' fi'; (try clear S9); (try k_sweep))
  k_with "call type:list" => (k_here; (with_reducible show wpAny _ _ (call (Value.type "list") [Value.ref _]) _ _ _); (with_reducible rename Sep _ _ => S9); k_dflt (refine' list_copyS (by k_asm) (by k_asm) S9 (by exact rfl) (by exact rfl) (by is_list) ?_ (by first | size_fits | ((rw [List.size_toArray, sizeLine_eq]); (simp only [List.length_append, List.length_cons, List.length_nil]); omega)); k_whole); intro D' c' h' F' N' S'; (try clear S9); (try k_sweep))
  k_with "con room" => first | k_dflt (exact Nat.le_of_ble_eq_true rfl) | k_dflt (exact room1 (by with_reducible assumption) rfl) | k_dflt (exact room2 (by with_reducible assumption) rfl) | k_dflt (exact room3 (by with_reducible assumption) rfl) | ((try simp only [depth_under_make, depth_under_kw, depth_in1, depth_deeper, depth_caller, units_in1, units_deeper, units_under_make, Around.mark_units, units_caller]); (try dsimp only); omega) | ((try simp only [Code.weight, Code.frames, Code.isCreation, Code.isGuard, Code.isCaller, Code.cUnits]); (try dsimp only); omega)
  k_with "call builtin:len" => (k_here; (with_reducible show wpAny _ _ (call (Value.builtin "len") [Value.ref _]) _ _ _); k_dflt (refine' kst_len (by k_asm) (by k_mem) rfl (by ((try simp only [List.length_append, List.length_cons, List.length_nil]); omega)) ?_; k_whole))
  trivial
abbrev here_post (w : World) (b bd R : Addr) (vs : List Value) (nn nd : Nat) (t : Tok) : PostT := fun n G => ∀ (tk : Tok), G ([(b, instObj 143 bd), (bd, dictOf [ent w "rows" t (.ref R)] nd), (R, listOf (vs).toArray nn)]) (.int vs.length tk)
set_option maxHeartbeats 16000000 in
theorem here_ok (w : World) (mean : ExcName → Option Value) (mg mb : Str → Option Value) (b bd R : Addr) (vs : List Value) (nn nd : Nat) (t : Tok) (hz : vs.length ≤ 1000) :
    Con w mean mg mb 800 105 [.ref b] (fun _ => True) [(b, instObj 143 bd), (bd, dictOf [ent w "rows" t (.ref R)] nd), (R, listOf (vs).toArray nn)] (here_post w b bd R vs nn nd t) := by
  walk_at "con fill"
  intro dp un gd frames base g s RR B X T hd hu hp hsz hk hA hn ret
  walk_at "con enter"
  k_steps
  (try dsimp only)
  rename Fr _ _ _ _ => F9
  rename News _ _ _ _ => N9
  exact hQ9 _ _ (ret _ _ F9.keep _ (news_ends N9))
theorem rows_n4 : True := by
  w_top off
  k_with_none
  k_with "setat" => first | exact SetAt.head | (apply SetAt.tail; walk_at "setat")
  k_with "setF" => first | exact SetF.head | (apply SetF.tail; walk_at "setF")
  k_with "upd" => k_dflt (exact upd_sep (by with_reducible assumption) (by walk_at "setat") (by exact rfl) (by exact rfl))
  k_with "updF" => first | k_dflt (exact updF_sep (by with_reducible assumption) (by walk_at "setF") (by exact rfl) (by exact rfl)) | walk_at "updF2"
  k_with "cut" => first | exact Cut.nil | (apply Cut.take; walk_at "cut") | (apply Cut.keep; walk_at "cut")
  k_with "sub" => first | exact Sub.nil | (apply Sub.take; walk_at "sub") | (apply Sub.keep; walk_at "sub")
  k_with "con in" => repeat' (first | exact List.forall_mem_nil _ | refine List.forall_mem_cons.mpr ⟨by k_mem, ?_⟩)
  k_with "execs cons" => (k_here; (try k_made); (try k_gentoks); (refine wpAny_execs_cons (s := Shared.mk _ (Shared.gens s) (Shared.drawn s) _ (Shared.os s)) ?_); (try dsimp only); (try k_fold))
  k_with "con fill" => ((have hfill : PySem.Challenge.rw_pq0756_01 = PySem.Challenge.rw_pq0756_01 ∧ _root_.Mine.hd.heap_39 = _root_.Mine.hd.heap_39 := by (k_fill; exact ⟨rfl, rfl⟩)); clear hfill)
  k_with "con enter" => (refine' enter_def (w := _) (by assumption) (by assumption) (by assumption) (by assumption) (by assumption) (by assumption) (by assumption) (by (simp only [recursionLimit]; omega)) (by k_is) (by k_is) (by first | exact BindsTo.of_eq rfl | (refine' binds_K (by (refine' Frag.In.keeps (by assumption) (by assumption))) (by exact rfl) (by k_is) (by exact rfl) (by exact rfl) (by exact rfl)) | fail "con_enter: no rule for these arguments") (by exact locs rfl) (by exact rfl) ?_ (by exact rfl) (by exact rfl) (by exact rfl) (by decide); k_whole; intro L' h' Q9 E9 F' N' S' hE9 hQ9; (dsimp only [adrs, List.length_cons, List.length_nil] at S'); (try dsimp only))
  k_with "newTuple" => (k_here; (with_reducible rename Sep _ _ => S9); k_dflt (refine' newTuple_S (by k_asm) (by k_asm) S9 (by exact rfl) (by exact rfl) ?_; k_whole); intro l' h' F' N' S' l4; (try clear S9); (try k_sweep))
  k_with "newList" => (k_here; (with_reducible rename Sep _ _ => S9); k_dflt (refine' newList_S (by k_asm) (by k_asm) S9 (by exact rfl) (by exact rfl) ?_; k_whole); intro l' h' F' N' S' l4; (try clear S9); (try k_sweep))
  k_with "call ref" => (k_here; (with_reducible show wpAny _ _ (call (Value.ref _) _ _) _ _ _); (with_reducible rename Sep _ _ => S9); k_dflt (refine' call_clsS (by k_asm) (by k_asm) (by k_asm) S9 (by exact rfl) (by exact rfl) (by k_is) (by k_is) (by k_is) ?_; k_whole; intro x' d' h' F' N' S' l8 l9; (clear S9); (try k_sweep); k_enter))
  k_with "eval Dict nil nil" => (k_here; (with_reducible rename Sep _ _ => S9); k_dflt (refine' newDict_S (by k_asm) (by k_asm) S9 (by exact rfl) (by exact rfl) (TopRead.nolimit (by k_asm)) ?_; k_whole); intro d' h' o' F' N' S' l4 lo' hi' fi'; (try clear S9); (try k_sweep))
  k_with "call type:list" => (k_here; (with_reducible show wpAny _ _ (call (Value.type "list") [Value.ref _]) _ _ _); (with_reducible rename Sep _ _ => S9); k_dflt (refine' list_copyS (by k_asm) (by k_asm) S9 (by exact rfl) (by exact rfl) (by is_list) ?_ (by first | size_fits | ((rw [List.size_toArray, sizeLine_eq]); (simp only [List.length_append, List.length_cons, List.length_nil]); omega)); k_whole); intro D' c' h' F' N' S'; (try clear S9); (try k_sweep))
  k_with "con room" => first | k_dflt (exact Nat.le_of_ble_eq_true rfl) | k_dflt (exact room1 (by with_reducible assumption) rfl) | k_dflt (exact room2 (by with_reducible assumption) rfl) | k_dflt (exact room3 (by with_reducible assumption) rfl) | ((try simp only [depth_under_make, depth_under_kw, depth_in1, depth_deeper, depth_caller, units_in1, units_deeper, units_under_make, Around.mark_units, units_caller]); (try dsimp only); omega) | ((try simp only [Code.weight, Code.frames, Code.isCreation, Code.isGuard, Code.isCaller, Code.cUnits]); (try dsimp only); omega)
  k_with "call builtin:len" => (k_here; (with_reducible show wpAny _ _ (call (Value.builtin "len") [Value.ref _]) _ _ _); k_dflt (refine' kst_len (by k_asm) (by k_mem) rfl (by ((try simp only [List.length_append, List.length_cons, List.length_nil]); omega)) ?_; k_whole))
  trivial
abbrev type_post (w : World) (x dx : Addr) (a b c : Value) : PostT := fun n G => ∀ (es : List DictEntry) (k : Nat), DictOK 13 es → G ([(x, instObj 400 dx), (dx, dictOf es k)]) (.none)
set_option maxHeartbeats 16000000 in
theorem type_ok (w : World) (mean : ExcName → Option Value) (mg mb : Str → Option Value) (x dx : Addr) (a b c : Value)  :
    Con w mean mg mb 850 397 [.ref x, a, b, c] (fun _ => True) [(x, instObj 400 dx), (dx, dictOf [] 0)] (type_post w x dx a b c) := by
  walk_at "con fill"
  intro dp un gd frames base g s RR B X T hd hu hp hsz hk hA hn ret
  walk_at "con enter"
  k_steps
  (try dsimp only)
  rename Fr _ _ _ _ => F9
  rename News _ _ _ _ => N9
  have M9 : News _ _ _ ([(x, instObj 400 dx), (dx, dictOf _ _)] : Led) := News.sub N9 (by walk_at "sub")
  exact hQ9 _ _ (ret _ _ F9.keep _ _ (by exact ⟨rfl, Nat.le_of_ble_eq_true rfl⟩) (news_ends M9))
theorem rows_n4b : True := by
  w_top off
  k_with_none
  k_with "setat" => first | exact SetAt.head | (apply SetAt.tail; walk_at "setat")
  k_with "setF" => first | exact SetF.head | (apply SetF.tail; walk_at "setF")
  k_with "upd" => k_dflt (exact upd_sep (by with_reducible assumption) (by walk_at "setat") (by exact rfl) (by exact rfl))
  k_with "updF" => first | k_dflt (exact updF_sep (by with_reducible assumption) (by walk_at "setF") (by exact rfl) (by exact rfl)) | walk_at "updF2"
  k_with "cut" => first | exact Cut.nil | (apply Cut.take; walk_at "cut") | (apply Cut.keep; walk_at "cut")
  k_with "sub" => first | exact Sub.nil | (apply Sub.take; walk_at "sub") | (apply Sub.keep; walk_at "sub")
  k_with "con in" => repeat' (first | exact List.forall_mem_nil _ | refine List.forall_mem_cons.mpr ⟨by k_mem, ?_⟩)
  k_with "execs cons" => (k_here; (try k_made); (try k_gentoks); (refine wpAny_execs_cons (s := Shared.mk _ (Shared.gens s) (Shared.drawn s) _ (Shared.os s)) ?_); (try dsimp only); (try k_fold))
  k_with "con fill" => ((have hfill : PySem.Challenge.rw_pq0756_01 = PySem.Challenge.rw_pq0756_01 ∧ _root_.Mine.hd.heap_39 = _root_.Mine.hd.heap_39 := by (k_fill; exact ⟨rfl, rfl⟩)); clear hfill)
  k_with "con enter" => (refine' enter_def (w := _) (by assumption) (by assumption) (by assumption) (by assumption) (by assumption) (by assumption) (by assumption) (by (simp only [recursionLimit]; omega)) (by k_is) (by k_is) (by first | exact BindsTo.of_eq rfl | (refine' binds_K (by (refine' Frag.In.keeps (by assumption) (by assumption))) (by exact rfl) (by k_is) (by exact rfl) (by exact rfl) (by exact rfl)) | fail "con_enter: no rule for these arguments") (by exact locs rfl) (by exact rfl) ?_ (by exact rfl) (by exact rfl) (by exact rfl) (by decide); k_whole; intro L' h' Q9 E9 F' N' S' hE9 hQ9; (dsimp only [adrs, List.length_cons, List.length_nil] at S'); (try dsimp only))
  k_with "newTuple" => (k_here; (with_reducible rename Sep _ _ => S9); k_dflt (refine' newTuple_S (by k_asm) (by k_asm) S9 (by exact rfl) (by exact rfl) ?_; k_whole); intro l' h' F' N' S' l4; (try clear S9); (try k_sweep))
  k_with "newList" => (k_here; (with_reducible rename Sep _ _ => S9); k_dflt (refine' newList_S (by k_asm) (by k_asm) S9 (by exact rfl) (by exact rfl) ?_; k_whole); intro l' h' F' N' S' l4; (try clear S9); (try k_sweep))
  k_with "call ref" => (k_here; (with_reducible show wpAny _ _ (call (Value.ref _) _ _) _ _ _); (with_reducible rename Sep _ _ => S9); k_dflt (refine' call_clsS (by k_asm) (by k_asm) (by k_asm) S9 (by exact rfl) (by exact rfl) (by k_is) (by k_is) (by k_is) ?_; k_whole; intro x' d' h' F' N' S' l8 l9; (clear S9); (try k_sweep); k_enter))
  k_with "eval Dict nil nil" => (k_here; (with_reducible rename Sep _ _ => S9); k_dflt (refine' newDict_S (by k_asm) (by k_asm) S9 (by exact rfl) (by exact rfl) (TopRead.nolimit (by k_asm)) ?_; k_whole); intro d' h' o' F' N' S' l4 lo' hi' fi'; (try clear S9); (try k_sweep))
  k_with "call type:list" => (k_here; (with_reducible show wpAny _ _ (call (Value.type "list") [Value.ref _]) _ _ _); (with_reducible rename Sep _ _ => S9); k_dflt (refine' list_copyS (by k_asm) (by k_asm) S9 (by exact rfl) (by exact rfl) (by is_list) ?_ (by first | size_fits | ((rw [List.size_toArray, sizeLine_eq]); (simp only [List.length_append, List.length_cons, List.length_nil]); omega)); k_whole); intro D' c' h' F' N' S'; (try clear S9); (try k_sweep))
  k_with "con room" => first | k_dflt (exact Nat.le_of_ble_eq_true rfl) | k_dflt (exact room1 (by with_reducible assumption) rfl) | k_dflt (exact room2 (by with_reducible assumption) rfl) | k_dflt (exact room3 (by with_reducible assumption) rfl) | ((try simp only [depth_under_make, depth_under_kw, depth_in1, depth_deeper, depth_caller, units_in1, units_deeper, units_under_make, Around.mark_units, units_caller]); (try dsimp only); omega) | ((try simp only [Code.weight, Code.frames, Code.isCreation, Code.isGuard, Code.isCaller, Code.cUnits]); (try dsimp only); omega)
  k_with "call builtin:len" => (k_here; (with_reducible show wpAny _ _ (call (Value.builtin "len") [Value.ref _]) _ _ _); k_dflt (refine' kst_len (by k_asm) (by k_mem) rfl (by ((try simp only [List.length_append, List.length_cons, List.length_nil]); omega)) ?_; k_whole))
  trivial
theorem words_n4b1 : True := by
  k_with "dk" => first | assumption | (refine' DictOK.put (by walk_at "dk"))
  k_with "dk get" => first | assumption | exact getL_hit | (refine' getL_miss' (by decide) (by walk_at "dk get")) | (refine' DictOK.isSome (by walk_at "dk"))
  trivial
local macro_rules | `(tactic| k_get) => `(tactic| walk_at "dk get")
theorem words_n4b2 : True := by
  k_with "setAttr ref" => (k_here; k_dflt (refine' set_dict (by k_asm) (by k_asm) (by k_asm) (by k_inst) (by exact rfl) (by k_is) (by k_is) (by k_is) (by k_is) (by (refine' DictOK.isSome (by walk_at "dk"))) (by exact rfl) (by k_upd) (by (refine' DictOK.len (by walk_at "dk") (by omega))) ?_; k_whole; intro h' F' N'; (try k_sweep)))
  k_with "call ref" => (k_here; (with_reducible show wpAny _ _ (call (Value.ref 400) _) _ _ _); (with_reducible rename Sep _ _ => S9); k_dflt (refine' call_clsS (by k_asm) (by k_asm) (by k_asm) S9 (by exact rfl) (by exact rfl) (by k_is) (by k_is) (by k_is) ?_; k_whole); (intro x' d' h' F' N' S' l8 l9); (clear S9); (try k_sweep); (with_reducible rename Sep _ _ => S9); k_dflt (refine' con_useC (by k_asm) (by k_asm) (by k_asm) (by k_asm) (by k_asm) S9 (by walk_at "cut") (type_ok _ _ _ _ _ _ _ _ _) (by exact rfl) (by exact rfl) (by walk_at "con room") (by walk_at "con room") (by exact rfl) (by exact rfl) (by exact rfl) (by first | assumption | exact rfl) (by exact fun _ _ _ => True.intro) ?_; k_whole); (intro n' h' tk' XX' F' fr' l4 lf'); (intro es' k' dk hX'); (have N' := lf' _ hX'); (clear hX'); (clear lf'); (clear XX'); (have S' := Fresh.none fr'); (clear fr'); (dsimp only [List.cons_append, List.nil_append] at N' S'); (try clear S9); (try dsimp only [InitBack]); (try refine ⟨rfl, ?_⟩); (try dsimp only); (try k_sweep))
  trivial
abbrev new_post (w : World) (x dx : Addr) (es : List DictEntry) (k : Nat) (c : Int) (tc tf : Tok) (fm : Str) (b : Value) (nn : Nat) : PostT := fun n G => ∀ (a : Addr) (t1 t2 : Tok), G ([(x, instObj 436 dx), (dx, dictOf (putL (Str.ofString "counter") (PyData.keyHash w.params (Str.ofString "counter")) (.str (Str.ofString "counter") t1) (.int (c + 1) t2) es) (putN (Str.ofString "counter") es k))]) (.ref a)
set_option maxHeartbeats 16000000 in
theorem new_ok (w : World) (mean : ExcName → Option Value) (mg mb : Str → Option Value) (x dx : Addr) (es : List DictEntry) (k : Nat) (c : Int) (tc tf : Tok) (fm : Str) (b : Value) (nn : Nat) (hc : getL (Str.ofString "counter") es = some (some (.int c tc))) (dk : DictOK nn es) (hn : nn ≤ 900) :
    Con w mean mg mb 800 426 [.ref x, .str fm tf, b] (fun _ => True) [(x, instObj 436 dx), (dx, dictOf es k)] (new_post w x dx es k c tc tf fm b nn) := by
  walk_at "con fill"
  intro dp un gd frames base g s RR B X T hd hu hp hsz hk hA hn ret
  walk_at "con enter"
  k_steps
  (try dsimp only)
  rename Fr _ _ _ _ => F9
  rename News _ _ _ _ => N9
  have M9 : News _ _ _ ([(x, instObj 436 dx), (dx, dictOf (putL (Str.ofString "counter") (PyData.keyHash w.params (Str.ofString "counter")) (.str (Str.ofString "counter") _) (.int (c + 1) _) es) (putN (Str.ofString "counter") es k))] : Led) := News.sub N9 (by walk_at "sub")
  exact hQ9 _ _ (ret _ _ F9.keep _ _ _ (news_ends M9))
abbrev new_at_post (w : World) (x dx : Addr) (r : List DictEntry) (k : Nat) (c : Int) (tk tc tf : Tok) (fm : Str) (b : Value) : PostT := fun n G => ∀ (a : Addr) (t1 t2 : Tok), G ([(x, instObj 436 dx), (dx, dictOf (ent w "counter" t1 (.int (c + 1) t2) :: r) k)]) (.ref a)
theorem new_at_ok (w : World) (mean : ExcName → Option Value) (mg mb : Str → Option Value) (x dx : Addr) (r : List DictEntry) (k : Nat) (c : Int) (tk tc tf : Tok) (fm : Str) (b : Value) (dk : DictOK 40 (ent w "counter" tk (.int c tc) :: r)) :
    Con w mean mg mb 800 426 [.ref x, .str fm tf, b] (fun _ => True) [(x, instObj 436 dx), (dx, dictOf (ent w "counter" tk (.int c tc) :: r) k)] (new_at_post w x dx r k c tk tc tf fm b) :=
  (new_ok w mean mg mb x dx _ k c tc tf fm b 40 getL_head dk (by omega)).mono (Nat.le_refl _) (fun _ h => h) fun n G h a t1 t2 => by
    rw [putL_head, putN_head]
    exact h a tk t2
theorem rows_n4c : True := by
  w_top off
  k_with_none
  k_with "setat" => first | exact SetAt.head | (apply SetAt.tail; walk_at "setat")
  k_with "setF" => first | exact SetF.head | (apply SetF.tail; walk_at "setF")
  k_with "upd" => k_dflt (exact upd_sep (by with_reducible assumption) (by walk_at "setat") (by exact rfl) (by exact rfl))
  k_with "updF" => first | k_dflt (exact updF_sep (by with_reducible assumption) (by walk_at "setF") (by exact rfl) (by exact rfl)) | walk_at "updF2"
  k_with "cut" => first | exact Cut.nil | (apply Cut.take; walk_at "cut") | (apply Cut.keep; walk_at "cut")
  k_with "sub" => first | exact Sub.nil | (apply Sub.take; walk_at "sub") | (apply Sub.keep; walk_at "sub")
  k_with "con in" => repeat' (first | exact List.forall_mem_nil _ | refine List.forall_mem_cons.mpr ⟨by k_mem, ?_⟩)
  k_with "execs cons" => (k_here; (try k_made); (try k_gentoks); (refine wpAny_execs_cons (s := Shared.mk _ (Shared.gens s) (Shared.drawn s) _ (Shared.os s)) ?_); (try dsimp only); (try k_fold))
  k_with "con fill" => ((have hfill : PySem.Challenge.rw_pq0756_01 = PySem.Challenge.rw_pq0756_01 ∧ _root_.Mine.hd.heap_39 = _root_.Mine.hd.heap_39 := by (k_fill; exact ⟨rfl, rfl⟩)); clear hfill)
  k_with "con enter" => (refine' enter_def (w := _) (by assumption) (by assumption) (by assumption) (by assumption) (by assumption) (by assumption) (by assumption) (by (simp only [recursionLimit]; omega)) (by k_is) (by k_is) (by first | exact BindsTo.of_eq rfl | (refine' binds_K (by (refine' Frag.In.keeps (by assumption) (by assumption))) (by exact rfl) (by k_is) (by exact rfl) (by exact rfl) (by exact rfl)) | fail "con_enter: no rule for these arguments") (by exact locs rfl) (by exact rfl) ?_ (by exact rfl) (by exact rfl) (by exact rfl) (by decide); k_whole; intro L' h' Q9 E9 F' N' S' hE9 hQ9; (dsimp only [adrs, List.length_cons, List.length_nil] at S'); (try dsimp only))
  k_with "newTuple" => (k_here; (with_reducible rename Sep _ _ => S9); k_dflt (refine' newTuple_S (by k_asm) (by k_asm) S9 (by exact rfl) (by exact rfl) ?_; k_whole); intro l' h' F' N' S' l4; (try clear S9); (try k_sweep))
  k_with "newList" => (k_here; (with_reducible rename Sep _ _ => S9); k_dflt (refine' newList_S (by k_asm) (by k_asm) S9 (by exact rfl) (by exact rfl) ?_; k_whole); intro l' h' F' N' S' l4; (try clear S9); (try k_sweep))
  k_with "call ref" => (k_here; (with_reducible show wpAny _ _ (call (Value.ref _) _ _) _ _ _); (with_reducible rename Sep _ _ => S9); k_dflt (refine' call_clsS (by k_asm) (by k_asm) (by k_asm) S9 (by exact rfl) (by exact rfl) (by k_is) (by k_is) (by k_is) ?_; k_whole; intro x' d' h' F' N' S' l8 l9; (clear S9); (try k_sweep); k_enter))
  k_with "eval Dict nil nil" => (k_here; (with_reducible rename Sep _ _ => S9); k_dflt (refine' newDict_S (by k_asm) (by k_asm) S9 (by exact rfl) (by exact rfl) (TopRead.nolimit (by k_asm)) ?_; k_whole); intro d' h' o' F' N' S' l4 lo' hi' fi'; (try clear S9); (try k_sweep))
  k_with "call type:list" => (k_here; (with_reducible show wpAny _ _ (call (Value.type "list") [Value.ref _]) _ _ _); (with_reducible rename Sep _ _ => S9); k_dflt (refine' list_copyS (by k_asm) (by k_asm) S9 (by exact rfl) (by exact rfl) (by is_list) ?_ (by first | size_fits | ((rw [List.size_toArray, sizeLine_eq]); (simp only [List.length_append, List.length_cons, List.length_nil]); omega)); k_whole); intro D' c' h' F' N' S'; (try clear S9); (try k_sweep))
  k_with "con room" => first | k_dflt (exact Nat.le_of_ble_eq_true rfl) | k_dflt (exact room1 (by with_reducible assumption) rfl) | k_dflt (exact room2 (by with_reducible assumption) rfl) | k_dflt (exact room3 (by with_reducible assumption) rfl) | ((try simp only [depth_under_make, depth_under_kw, depth_in1, depth_deeper, depth_caller, units_in1, units_deeper, units_under_make, Around.mark_units, units_caller]); (try dsimp only); omega) | ((try simp only [Code.weight, Code.frames, Code.isCreation, Code.isGuard, Code.isCaller, Code.cUnits]); (try dsimp only); omega)
  k_with "call builtin:len" => (k_here; (with_reducible show wpAny _ _ (call (Value.builtin "len") [Value.ref _]) _ _ _); k_dflt (refine' kst_len (by k_asm) (by k_mem) rfl (by ((try simp only [List.length_append, List.length_cons, List.length_nil]); omega)) ?_; k_whole))
  trivial
theorem words_n4c1 : True := by
  k_with "call ref" => (k_here; (with_reducible show wpAny _ _ (call (Value.ref 426) _) _ _ _); (with_reducible rename Sep _ _ => S9); k_dflt (refine' con_use (by k_asm) (by k_asm) (by k_asm) (by k_asm) (by k_asm) S9 (by walk_at "cut") (new_at_ok _ _ _ _ _ _ _ _ _ _ _ _ _ _ (by exact ⟨rfl, Nat.le_of_ble_eq_true rfl⟩)) (by exact rfl) (by exact rfl) (by walk_at "con room") (by walk_at "con room") (by exact rfl) (by exact rfl) (by exact rfl) (by first | assumption | exact rfl) (by exact fun _ _ _ => True.intro) ?_; k_whole); (intro n' h' tk' XX' F' fr' l4 lf'); (intro a' t1' t2' hX'); (have N' := lf' _ hX'); (clear hX'); (clear lf'); (clear XX'); (have S' := Fresh.none fr'); (clear fr'); (dsimp only [List.cons_append, List.nil_append] at N' S'); (try clear S9); (try dsimp only); (try k_sweep))
  trivial
abbrev types_post (w : World) (x dx : Addr) : PostT := fun n G => ∀ (es : List DictEntry) (k : Nat) (v : Addr), getL (Str.ofString "integer") es = some (some (.ref v)) → DictOK 40 es → G ([(x, instObj 436 dx), (dx, dictOf es k)]) (.none)
set_option maxHeartbeats 16000000 in
theorem types_ok (w : World) (mean : ExcName → Option Value) (mg mb : Str → Option Value) (x dx : Addr)  :
    Con w mean mg mb 700 418 [.ref x] (fun _ => True) [(x, instObj 436 dx), (dx, dictOf [] 0)] (types_post w x dx) := by
  walk_at "con fill"
  intro dp un gd frames base g s RR B X T hd hu hp hsz hk hA hn ret
  walk_at "con enter"
  k_steps
  (try dsimp only)
  rename Fr _ _ _ _ => F9
  rename News _ _ _ _ => N9
  have M9 : News _ _ _ ([(x, instObj 436 dx), (dx, dictOf _ _)] : Led) := News.sub N9 (by walk_at "sub")
  exact hQ9 _ _ (ret _ _ F9.keep _ _ _ (by exact rfl) (by exact ⟨rfl, Nat.le_of_ble_eq_true rfl⟩) (news_ends M9))
theorem rows_n5 : True := by
  w_top off
  k_with_none
  k_with "setat" => first | exact SetAt.head | (apply SetAt.tail; walk_at "setat")
  k_with "setF" => first | exact SetF.head | (apply SetF.tail; walk_at "setF")
  k_with "upd" => k_dflt (exact upd_sep (by with_reducible assumption) (by walk_at "setat") (by exact rfl) (by exact rfl))
  k_with "updF" => first | k_dflt (exact updF_sep (by with_reducible assumption) (by walk_at "setF") (by exact rfl) (by exact rfl)) | walk_at "updF2"
  k_with "cut" => first | exact Cut.nil | (apply Cut.take; walk_at "cut") | (apply Cut.keep; walk_at "cut")
  k_with "sub" => first | exact Sub.nil | (apply Sub.take; walk_at "sub") | (apply Sub.keep; walk_at "sub")
  k_with "con in" => repeat' (first | exact List.forall_mem_nil _ | refine List.forall_mem_cons.mpr ⟨by k_mem, ?_⟩)
  k_with "execs cons" => (k_here; (try k_made); (try k_gentoks); (refine wpAny_execs_cons (s := Shared.mk _ (Shared.gens s) (Shared.drawn s) _ (Shared.os s)) ?_); (try dsimp only); (try k_fold))
  k_with "con fill" => ((have hfill : PySem.Challenge.rw_pq0756_01 = PySem.Challenge.rw_pq0756_01 ∧ _root_.Mine.hd.heap_39 = _root_.Mine.hd.heap_39 := by (k_fill; exact ⟨rfl, rfl⟩)); clear hfill)
  k_with "con enter" => (refine' enter_def (w := _) (by assumption) (by assumption) (by assumption) (by assumption) (by assumption) (by assumption) (by assumption) (by (simp only [recursionLimit]; omega)) (by k_is) (by k_is) (by first | exact BindsTo.of_eq rfl | (refine' binds_K (by (refine' Frag.In.keeps (by assumption) (by assumption))) (by exact rfl) (by k_is) (by exact rfl) (by exact rfl) (by exact rfl)) | fail "con_enter: no rule for these arguments") (by exact locs rfl) (by exact rfl) ?_ (by exact rfl) (by exact rfl) (by exact rfl) (by decide); k_whole; intro L' h' Q9 E9 F' N' S' hE9 hQ9; (dsimp only [adrs, List.length_cons, List.length_nil] at S'); (try dsimp only))
  k_with "newTuple" => (k_here; (with_reducible rename Sep _ _ => S9); k_dflt (refine' newTuple_S (by k_asm) (by k_asm) S9 (by exact rfl) (by exact rfl) ?_; k_whole); intro l' h' F' N' S' l4; (try clear S9); (try k_sweep))
  k_with "newList" => (k_here; (with_reducible rename Sep _ _ => S9); k_dflt (refine' newList_S (by k_asm) (by k_asm) S9 (by exact rfl) (by exact rfl) ?_; k_whole); intro l' h' F' N' S' l4; (try clear S9); (try k_sweep))
  k_with "call ref" => (k_here; (with_reducible show wpAny _ _ (call (Value.ref _) _ _) _ _ _); (with_reducible rename Sep _ _ => S9); k_dflt (refine' call_clsS (by k_asm) (by k_asm) (by k_asm) S9 (by exact rfl) (by exact rfl) (by k_is) (by k_is) (by k_is) ?_; k_whole; intro x' d' h' F' N' S' l8 l9; (clear S9); (try k_sweep); k_enter))
  k_with "eval Dict nil nil" => (k_here; (with_reducible rename Sep _ _ => S9); k_dflt (refine' newDict_S (by k_asm) (by k_asm) S9 (by exact rfl) (by exact rfl) (TopRead.nolimit (by k_asm)) ?_; k_whole); intro d' h' o' F' N' S' l4 lo' hi' fi'; (try clear S9); (try k_sweep))
  k_with "call type:list" => (k_here; (with_reducible show wpAny _ _ (call (Value.type "list") [Value.ref _]) _ _ _); (with_reducible rename Sep _ _ => S9); k_dflt (refine' list_copyS (by k_asm) (by k_asm) S9 (by exact rfl) (by exact rfl) (by is_list) ?_ (by first | size_fits | ((rw [List.size_toArray, sizeLine_eq]); (simp only [List.length_append, List.length_cons, List.length_nil]); omega)); k_whole); intro D' c' h' F' N' S'; (try clear S9); (try k_sweep))
  k_with "con room" => first | k_dflt (exact Nat.le_of_ble_eq_true rfl) | k_dflt (exact room1 (by with_reducible assumption) rfl) | k_dflt (exact room2 (by with_reducible assumption) rfl) | k_dflt (exact room3 (by with_reducible assumption) rfl) | ((try simp only [depth_under_make, depth_under_kw, depth_in1, depth_deeper, depth_caller, units_in1, units_deeper, units_under_make, Around.mark_units, units_caller]); (try dsimp only); omega) | ((try simp only [Code.weight, Code.frames, Code.isCreation, Code.isGuard, Code.isCaller, Code.cUnits]); (try dsimp only); omega)
  k_with "call builtin:len" => (k_here; (with_reducible show wpAny _ _ (call (Value.builtin "len") [Value.ref _]) _ _ _); k_dflt (refine' kst_len (by k_asm) (by k_mem) rfl (by ((try simp only [List.length_append, List.length_cons, List.length_nil]); omega)) ?_; k_whole))
  trivial
abbrev buf_post (w : World) (x dx : Addr) : PostT := fun n G => ∀ (R : Addr) (t : Tok), @LE.le Nat _ n R → G ([(R, listOf #[] 0), (x, instObj 143 dx), (dx, dictOf [ent w "rows" t (.ref R)] 1)]) (.none)
set_option maxHeartbeats 16000000 in
theorem buf_ok (w : World) (mean : ExcName → Option Value) (mg mb : Str → Option Value) (x dx : Addr)  :
    Con w mean mg mb 850 91 [.ref x] (fun _ => True) [(x, instObj 143 dx), (dx, dictOf [] 0)] (buf_post w x dx) := by
  walk_at "con fill"
  intro dp un gd frames base g s RR B X T hd hu hp hsz hk hA hn ret
  walk_at "con enter"
  k_steps
  (try dsimp only)
  rename Fr _ _ _ _ => F9
  rename News _ _ _ _ => N9
  have M9 : News _ _ _ ([(_, listOf #[] 0), (x, instObj 143 dx), (dx, dictOf [ent w "rows" _ (.ref _)] 1)] : Led) := News.sub N9 (by walk_at "sub")
  exact hQ9 _ _ (ret _ _ F9.keep _ _ (by assumption) (news_ends M9))
abbrev pool_post (w : World) (x dx : Addr) (k : Int) (tk : Tok) : PostT := fun n G => ∀ (t1 t2 t3 t4 tc : Tok) (ow : Addr) (oo : Obj) (od : Addr), oo.IsDictOf (PySem.intKind PG w) [] → PyProof.V.FlatPairs PyData.int [] [] → (ow == sysModules) = false → @LE.le Nat _ n ow → @LE.le Nat _ n od → @Ne Nat od ow → G ([(od, listOf #[] 0), (ow, oo), (x, instObj 237 dx), (dx, dictOf [ent w "count" t1 (.int k tc), ent w "owner" t2 (.ref ow), ent w "order" t3 (.ref od), ent w "spiller" t4 .none] 4)]) (.none)
set_option maxHeartbeats 16000000 in
theorem pool_ok (w : World) (mean : ExcName → Option Value) (mg mb : Str → Option Value) (x dx : Addr) (k : Int) (tk : Tok)  :
    Con w mean mg mb 850 193 [.ref x, .int k tk] (fun _ => True) [(x, instObj 237 dx), (dx, dictOf [] 0)] (pool_post w x dx k tk) := by
  walk_at "con fill"
  intro dp un gd frames base g s RR B X T hd hu hp hsz hk hA hn ret
  walk_at "con enter"
  k_steps
  (try dsimp only)
  rename Fr _ _ _ _ => F9
  rename News _ _ _ _ => N9
  have M9 : News _ _ _ ([(_, listOf #[] 0), (_, _), (x, instObj 237 dx), (dx, dictOf [ent w "count" _ (.int k _), ent w "owner" _ (.ref _), ent w "order" _ (.ref _), ent w "spiller" _ .none] 4)] : Led) := News.sub N9 (by walk_at "sub")
  exact hQ9 _ _ (ret _ _ F9.keep _ _ _ _ _ _ _ _ (by assumption) (by assumption) (by assumption) (by assumption) (by assumption) (by exact Sep.ne01 (by with_reducible assumption)) (news_ends M9))
theorem words_n51 : True := by
  k_with "call ref" => (k_here; (with_reducible show wpAny _ _ (call (Value.ref 143) _) _ _ _); (with_reducible rename Sep _ _ => S9); k_dflt (refine' call_clsS (by k_asm) (by k_asm) (by k_asm) S9 (by exact rfl) (by exact rfl) (by k_is) (by k_is) (by k_is) ?_; k_whole); (intro x' d' h' F' N' S' l8 l9); (clear S9); (try k_sweep); (with_reducible rename Sep _ _ => S9); k_dflt (refine' con_useC (by k_asm) (by k_asm) (by k_asm) (by k_asm) (by k_asm) S9 (by walk_at "cut") (buf_ok _ _ _ _ _ _) (by exact rfl) (by exact rfl) (by walk_at "con room") (by walk_at "con room") (by exact rfl) (by exact rfl) (by exact rfl) (by first | assumption | exact rfl) (by exact fun _ _ _ => True.intro) ?_; k_whole); (intro n' h' tk' XX' F' fr' l4 lf'); (intro R' t' l5 hX'); (have N' := lf' _ hX'); (clear hX'); (clear lf'); (clear XX'); (have S' := Fresh.one fr' l5); (clear fr'); (replace l5 := Nat.le_trans l4 l5); (dsimp only [List.cons_append, List.nil_append] at N' S'); (try clear S9); (try dsimp only [InitBack]); (try refine ⟨rfl, ?_⟩); (try dsimp only); (try k_sweep))
  k_with "call ref" => (k_here; (with_reducible show wpAny _ _ (call (Value.ref 237) _) _ _ _); (with_reducible rename Sep _ _ => S9); k_dflt (refine' call_clsS (by k_asm) (by k_asm) (by k_asm) S9 (by exact rfl) (by exact rfl) (by k_is) (by k_is) (by k_is) ?_; k_whole); (intro x' d' h' F' N' S' l8 l9); (clear S9); (try k_sweep); (with_reducible rename Sep _ _ => S9); k_dflt (refine' con_useC (by k_asm) (by k_asm) (by k_asm) (by k_asm) (by k_asm) S9 (by walk_at "cut") (pool_ok _ _ _ _ _ _ _ _) (by exact rfl) (by exact rfl) (by walk_at "con room") (by walk_at "con room") (by exact rfl) (by exact rfl) (by exact rfl) (by first | assumption | exact rfl) (by exact fun _ _ _ => True.intro) ?_; k_whole); (intro n' h' tk' XX' F' fr' l4 lf'); (intro t1' t2' t3' t4' tc' ow' oo' od' hdo hfo hlo l5 l6 hne hX'); (have N' := lf' _ hX'); (clear hX'); (clear lf'); (clear XX'); (have S' := Fresh.two fr' l6 l5 hne); (clear hne); (clear fr'); (replace l5 := Nat.le_trans l4 l5); (replace l6 := Nat.le_trans l4 l6); (dsimp only [List.cons_append, List.nil_append] at N' S'); (try clear S9); (try dsimp only [InitBack]); (try refine ⟨rfl, ?_⟩); (try dsimp only); (try k_sweep))
  trivial
abbrev coder_post (w : World) (x dx ty : Addr) (tm : Tok) (k : Int) (tk : Tok) : PostT := fun n G => ∀ (es : List DictEntry) (nn : Nat) (b bd : Addr) (t : Tok) (R p pd : Addr) (t1 t2 t3 t4 tc : Tok) (v : Value) (ow : Addr) (oo : Obj) (od : Addr), CoderD0 es ty b p → oo.IsDictOf (PySem.intKind PG w) [] → PyProof.V.FlatPairs PyData.int [] [] → (ow == sysModules) = false → @List.Nodup Nat [b, bd, R, p, pd, ow, od] → (∀ a ∈ ([b, bd, R, p, pd, ow, od] : List Nat), n ≤ a) → G ([(b, instObj 143 bd), (bd, dictOf [ent w "rows" t (.ref R)] 1), (R, listOf #[] 0), (p, instObj 237 pd), (pd, dictOf [ent w "count" t1 (.int k tc), ent w "owner" t2 (.ref ow), ent w "order" t3 (.ref od), ent w "spiller" t4 v] 4), (ow, oo), (od, listOf #[] 0), (x, instObj 379 dx), (dx, dictOf es nn)]) (.none)
set_option maxHeartbeats 16000000 in
theorem coder_ok (w : World) (mean : ExcName → Option Value) (mg mb : Str → Option Value) (x dx ty : Addr) (tm : Tok) (k : Int) (tk : Tok)  :
    Con w mean mg mb 750 255 [.ref x, .ref ty, .str (Str.ofString "M") tm, .int k tk] (fun _ => True) [(x, instObj 379 dx), (dx, dictOf [] 0)] (coder_post w x dx ty tm k tk) := by
  walk_at "con fill"
  intro dp un gd frames base g s RR B X T hd hu hp hsz hk hA hn ret
  walk_at "con enter"
  k_steps
  (try dsimp only)
  rename Fr _ _ _ _ => F9
  rename News _ _ _ _ => N9
  exact hQ9 _ _ (ret _ _ F9.keep _ _ _ _ _ _ _ _ _ _ _ _ _ _ _ _ _ (by exact ⟨⟨rfl, Nat.le_of_ble_eq_true rfl⟩, rfl, rfl, rfl, rfl, rfl, rfl, rfl, rfl, rfl⟩) (by assumption) (by assumption) (by assumption) (by exact nd_at (by with_reducible assumption) (is := [16, 17, 15, 13, 14, 12, 11]) rfl (by decide)) (by (repeat' (first | exact List.forall_mem_nil _ | refine List.forall_mem_cons.mpr ⟨?_, ?_⟩)) <;> assumption) (news_ends (News.p9 (News.drop 11 N9))))
theorem rows_n6 : True := by
  w_top off
  k_with_none
  k_with "setat" => first | exact SetAt.head | (apply SetAt.tail; walk_at "setat")
  k_with "setF" => first | exact SetF.head | (apply SetF.tail; walk_at "setF")
  k_with "upd" => k_dflt (exact upd_sep (by with_reducible assumption) (by walk_at "setat") (by exact rfl) (by exact rfl))
  k_with "updF" => first | k_dflt (exact updF_sep (by with_reducible assumption) (by walk_at "setF") (by exact rfl) (by exact rfl)) | walk_at "updF2"
  k_with "cut" => first | exact Cut.nil | (apply Cut.take; walk_at "cut") | (apply Cut.keep; walk_at "cut")
  k_with "sub" => first | exact Sub.nil | (apply Sub.take; walk_at "sub") | (apply Sub.keep; walk_at "sub")
  k_with "con in" => repeat' (first | exact List.forall_mem_nil _ | refine List.forall_mem_cons.mpr ⟨by k_mem, ?_⟩)
  k_with "execs cons" => (k_here; (try k_made); (try k_gentoks); (refine wpAny_execs_cons (s := Shared.mk _ (Shared.gens s) (Shared.drawn s) _ (Shared.os s)) ?_); (try dsimp only); (try k_fold))
  k_with "con fill" => ((have hfill : PySem.Challenge.rw_pq0756_01 = PySem.Challenge.rw_pq0756_01 ∧ _root_.Mine.hd.heap_39 = _root_.Mine.hd.heap_39 := by (k_fill; exact ⟨rfl, rfl⟩)); clear hfill)
  k_with "con enter" => (refine' enter_def (w := _) (by assumption) (by assumption) (by assumption) (by assumption) (by assumption) (by assumption) (by assumption) (by (simp only [recursionLimit]; omega)) (by k_is) (by k_is) (by first | exact BindsTo.of_eq rfl | (refine' binds_K (by (refine' Frag.In.keeps (by assumption) (by assumption))) (by exact rfl) (by k_is) (by exact rfl) (by exact rfl) (by exact rfl)) | fail "con_enter: no rule for these arguments") (by exact locs rfl) (by exact rfl) ?_ (by exact rfl) (by exact rfl) (by exact rfl) (by decide); k_whole; intro L' h' Q9 E9 F' N' S' hE9 hQ9; (dsimp only [adrs, List.length_cons, List.length_nil] at S'); (try dsimp only))
  k_with "newTuple" => (k_here; (with_reducible rename Sep _ _ => S9); k_dflt (refine' newTuple_S (by k_asm) (by k_asm) S9 (by exact rfl) (by exact rfl) ?_; k_whole); intro l' h' F' N' S' l4; (try clear S9); (try k_sweep))
  k_with "newList" => (k_here; (with_reducible rename Sep _ _ => S9); k_dflt (refine' newList_S (by k_asm) (by k_asm) S9 (by exact rfl) (by exact rfl) ?_; k_whole); intro l' h' F' N' S' l4; (try clear S9); (try k_sweep))
  k_with "call ref" => (k_here; (with_reducible show wpAny _ _ (call (Value.ref _) _ _) _ _ _); (with_reducible rename Sep _ _ => S9); k_dflt (refine' call_clsS (by k_asm) (by k_asm) (by k_asm) S9 (by exact rfl) (by exact rfl) (by k_is) (by k_is) (by k_is) ?_; k_whole; intro x' d' h' F' N' S' l8 l9; (clear S9); (try k_sweep); k_enter))
  k_with "eval Dict nil nil" => (k_here; (with_reducible rename Sep _ _ => S9); k_dflt (refine' newDict_S (by k_asm) (by k_asm) S9 (by exact rfl) (by exact rfl) (TopRead.nolimit (by k_asm)) ?_; k_whole); intro d' h' o' F' N' S' l4 lo' hi' fi'; (try clear S9); (try k_sweep))
  k_with "call type:list" => (k_here; (with_reducible show wpAny _ _ (call (Value.type "list") [Value.ref _]) _ _ _); (with_reducible rename Sep _ _ => S9); k_dflt (refine' list_copyS (by k_asm) (by k_asm) S9 (by exact rfl) (by exact rfl) (by is_list) ?_ (by first | size_fits | ((rw [List.size_toArray, sizeLine_eq]); (simp only [List.length_append, List.length_cons, List.length_nil]); omega)); k_whole); intro D' c' h' F' N' S'; (try clear S9); (try k_sweep))
  k_with "con room" => first | k_dflt (exact Nat.le_of_ble_eq_true rfl) | k_dflt (exact room1 (by with_reducible assumption) rfl) | k_dflt (exact room2 (by with_reducible assumption) rfl) | k_dflt (exact room3 (by with_reducible assumption) rfl) | ((try simp only [depth_under_make, depth_under_kw, depth_in1, depth_deeper, depth_caller, units_in1, units_deeper, units_under_make, Around.mark_units, units_caller]); (try dsimp only); omega) | ((try simp only [Code.weight, Code.frames, Code.isCreation, Code.isGuard, Code.isCaller, Code.cUnits]); (try dsimp only); omega)
  k_with "call builtin:len" => (k_here; (with_reducible show wpAny _ _ (call (Value.builtin "len") [Value.ref _]) _ _ _); k_dflt (refine' kst_len (by k_asm) (by k_mem) rfl (by ((try simp only [List.length_append, List.length_cons, List.length_nil]); omega)) ?_; k_whole))
  trivial
theorem words_n61 : True := by
  k_with "dk" => first | assumption | (refine' DictOK.put (by walk_at "dk"))
  k_with "dk get" => first | assumption | exact getL_hit | (refine' getL_miss' (by decide) (by walk_at "dk get")) | (refine' DictOK.isSome (by walk_at "dk"))
  trivial
local macro_rules | `(tactic| k_get) => `(tactic| walk_at "dk get")
theorem words_n62 : True := by
  k_with "setAttr ref" => (k_here; k_dflt (refine' set_dict (by k_asm) (by k_asm) (by k_asm) (by k_inst) (by exact rfl) (by k_is) (by k_is) (by k_is) (by k_is) (by (refine' DictOK.isSome (by walk_at "dk"))) (by exact rfl) (by k_upd) (by (refine' DictOK.len (by walk_at "dk") (by omega))) ?_; k_whole; intro h' F' N'; (try k_sweep)))
  trivial
abbrev enter_post (w : World) (x dx ty b p l0 : Addr) (es : List DictEntry) (nn : Nat) (lb : Int) (t0 t1 : Tok) : PostT := fun n G => ∀ (es' : List DictEntry) (n' : Nat) (ft : Addr), CoderD es' ty b p ft (0 - 8 - lb) (0 - 8 - lb) 0 → @LE.le Nat _ n ft → G ([(ft, listOf #[] 0), (l0, listOf #[] 0), (x, instObj 379 dx), (dx, dictOf es' n')]) (.none)
set_option maxHeartbeats 16000000 in
theorem enter_ok (w : World) (mean : ExcName → Option Value) (mg mb : Str → Option Value) (x dx ty b p l0 : Addr) (es : List DictEntry) (nn : Nat) (lb : Int) (t0 t1 : Tok) (C : CoderD0 es ty b p) :
    Con w mean mg mb 750 262 [.ref x, .none, .int 0 t0, .int lb t1, .ref l0] (fun _ => True) [(l0, listOf #[] 0), (x, instObj 379 dx), (dx, dictOf es nn)] (enter_post w x dx ty b p l0 es nn lb t0 t1) := by
  have D1 := C.ok
  have M1 := C.m1
  have M2 := C.m2
  have M3 := C.m3
  have M4 := C.m4
  have M5 := C.m5
  have M6 := C.m6
  have D2 := C.types
  have D3 := C.buf
  have D4 := C.pool
  walk_at "con fill"
  intro dp un gd frames base g s RR B X T hd hu hp hsz hk hA hn ret
  walk_at "con enter"
  k_steps
  (try dsimp only)
  rename Fr _ _ _ _ => F9
  rename News _ _ _ _ => N9
  have M9 : News _ _ _ ([(_, listOf #[] 0), (l0, listOf #[] 0), (x, instObj 379 dx), (dx, dictOf _ _)] : Led) := News.sub N9 (by walk_at "sub")
  exact hQ9 _ _ (ret _ _ F9.keep _ _ _ (by exact ⟨DictOK.mono (by walk_at "dk") (by omega), by walk_at "dk get", by walk_at "dk get", by walk_at "dk get", by walk_at "dk get", ⟨_, by walk_at "dk get"⟩, ⟨_, by walk_at "dk get"⟩, ⟨_, by walk_at "dk get"⟩, by walk_at "dk get", by walk_at "dk get", by walk_at "dk get", by walk_at "dk get", by walk_at "dk get", by walk_at "dk get"⟩) (by assumption) (news_ends M9))
theorem rows_n7 : True := by
  w_top off
  k_with_none
  k_with "setat" => first | exact SetAt.head | (apply SetAt.tail; walk_at "setat")
  k_with "setF" => first | exact SetF.head | (apply SetF.tail; walk_at "setF")
  k_with "upd" => k_dflt (exact upd_sep (by with_reducible assumption) (by walk_at "setat") (by exact rfl) (by exact rfl))
  k_with "updF" => first | k_dflt (exact updF_sep (by with_reducible assumption) (by walk_at "setF") (by exact rfl) (by exact rfl)) | walk_at "updF2"
  k_with "cut" => first | exact Cut.nil | (apply Cut.take; walk_at "cut") | (apply Cut.keep; walk_at "cut")
  k_with "sub" => first | exact Sub.nil | (apply Sub.take; walk_at "sub") | (apply Sub.keep; walk_at "sub")
  k_with "con in" => repeat' (first | exact List.forall_mem_nil _ | refine List.forall_mem_cons.mpr ⟨by k_mem, ?_⟩)
  k_with "execs cons" => (k_here; (try k_made); (try k_gentoks); (refine wpAny_execs_cons (s := Shared.mk _ (Shared.gens s) (Shared.drawn s) _ (Shared.os s)) ?_); (try dsimp only); (try k_fold))
  k_with "con fill" => ((have hfill : PySem.Challenge.rw_pq0756_01 = PySem.Challenge.rw_pq0756_01 ∧ _root_.Mine.hd.heap_39 = _root_.Mine.hd.heap_39 := by (k_fill; exact ⟨rfl, rfl⟩)); clear hfill)
  k_with "con enter" => (refine' enter_def (w := _) (by assumption) (by assumption) (by assumption) (by assumption) (by assumption) (by assumption) (by assumption) (by (simp only [recursionLimit]; omega)) (by k_is) (by k_is) (by first | exact BindsTo.of_eq rfl | (refine' binds_K (by (refine' Frag.In.keeps (by assumption) (by assumption))) (by exact rfl) (by k_is) (by exact rfl) (by exact rfl) (by exact rfl)) | fail "con_enter: no rule for these arguments") (by exact locs rfl) (by exact rfl) ?_ (by exact rfl) (by exact rfl) (by exact rfl) (by decide); k_whole; intro L' h' Q9 E9 F' N' S' hE9 hQ9; (dsimp only [adrs, List.length_cons, List.length_nil] at S'); (try dsimp only))
  k_with "newTuple" => (k_here; (with_reducible rename Sep _ _ => S9); k_dflt (refine' newTuple_S (by k_asm) (by k_asm) S9 (by exact rfl) (by exact rfl) ?_; k_whole); intro l' h' F' N' S' l4; (try clear S9); (try k_sweep))
  k_with "newList" => (k_here; (with_reducible rename Sep _ _ => S9); k_dflt (refine' newList_S (by k_asm) (by k_asm) S9 (by exact rfl) (by exact rfl) ?_; k_whole); intro l' h' F' N' S' l4; (try clear S9); (try k_sweep))
  k_with "call ref" => (k_here; (with_reducible show wpAny _ _ (call (Value.ref _) _ _) _ _ _); (with_reducible rename Sep _ _ => S9); k_dflt (refine' call_clsS (by k_asm) (by k_asm) (by k_asm) S9 (by exact rfl) (by exact rfl) (by k_is) (by k_is) (by k_is) ?_; k_whole; intro x' d' h' F' N' S' l8 l9; (clear S9); (try k_sweep); k_enter))
  k_with "eval Dict nil nil" => (k_here; (with_reducible rename Sep _ _ => S9); k_dflt (refine' newDict_S (by k_asm) (by k_asm) S9 (by exact rfl) (by exact rfl) (TopRead.nolimit (by k_asm)) ?_; k_whole); intro d' h' o' F' N' S' l4 lo' hi' fi'; (try clear S9); (try k_sweep))
  k_with "call type:list" => (k_here; (with_reducible show wpAny _ _ (call (Value.type "list") [Value.ref _]) _ _ _); (with_reducible rename Sep _ _ => S9); k_dflt (refine' list_copyS (by k_asm) (by k_asm) S9 (by exact rfl) (by exact rfl) (by is_list) ?_ (by first | size_fits | ((rw [List.size_toArray, sizeLine_eq]); (simp only [List.length_append, List.length_cons, List.length_nil]); omega)); k_whole); intro D' c' h' F' N' S'; (try clear S9); (try k_sweep))
  k_with "con room" => first | k_dflt (exact Nat.le_of_ble_eq_true rfl) | k_dflt (exact room1 (by with_reducible assumption) rfl) | k_dflt (exact room2 (by with_reducible assumption) rfl) | k_dflt (exact room3 (by with_reducible assumption) rfl) | ((try simp only [depth_under_make, depth_under_kw, depth_in1, depth_deeper, depth_caller, units_in1, units_deeper, units_under_make, Around.mark_units, units_caller]); (try dsimp only); omega) | ((try simp only [Code.weight, Code.frames, Code.isCreation, Code.isGuard, Code.isCaller, Code.cUnits]); (try dsimp only); omega)
  k_with "call builtin:len" => (k_here; (with_reducible show wpAny _ _ (call (Value.builtin "len") [Value.ref _]) _ _ _); k_dflt (refine' kst_len (by k_asm) (by k_mem) rfl (by ((try simp only [List.length_append, List.length_cons, List.length_nil]); omega)) ?_; k_whole))
  trivial
theorem words_n71 : True := by
  k_with "dk" => first | assumption | (refine' DictOK.put (by walk_at "dk"))
  k_with "dk get" => first | assumption | exact getL_hit | (refine' getL_miss' (by decide) (by walk_at "dk get")) | (refine' DictOK.isSome (by walk_at "dk"))
  trivial
local macro_rules | `(tactic| k_get) => `(tactic| walk_at "dk get")
theorem words_n72 : True := by
  k_with "setAttr ref" => (k_here; k_dflt (refine' set_dict (by k_asm) (by k_asm) (by k_asm) (by k_inst) (by exact rfl) (by k_is) (by k_is) (by k_is) (by k_is) (by (refine' DictOK.isSome (by walk_at "dk"))) (by exact rfl) (by k_upd) (by (refine' DictOK.len (by walk_at "dk") (by omega))) ?_; k_whole; intro h' F' N'; (try k_sweep)))
  trivial
abbrev temp_post (w : World) (x dx ty b p ft : Addr) (es : List DictEntry) (nn : Nat) (low out : Int) : PostT := fun n G => ∀ (es' : List DictEntry) (n' : Nat) (t : Tok), CoderD es' ty b p ft (low - 4) (low - 4) out → G ([(x, instObj 379 dx), (dx, dictOf es' n'), (ft, listOf #[] 0)]) (.int (low - 4) t)
set_option maxHeartbeats 16000000 in
theorem temp_ok (w : World) (mean : ExcName → Option Value) (mg mb : Str → Option Value) (x dx ty b p ft : Addr) (es : List DictEntry) (nn : Nat) (low out : Int) (C : CoderD es ty b p ft low low out) :
    Con w mean mg mb 750 283 [.ref x] (fun _ => True) [(x, instObj 379 dx), (dx, dictOf es nn), (ft, listOf #[] 0)] (temp_post w x dx ty b p ft es nn low out) := by
  have D1 := C.ok
  have M1 := C.m1
  have M2 := C.m2
  have M3 := C.m3
  have M4 := C.m4
  have M5 := C.m5
  have M6 := C.m6
  have D2 := C.types
  have D3 := C.buf
  have D4 := C.pool
  have D5 := C.ft
  obtain ⟨y1, D6⟩ := C.low
  obtain ⟨y2, D7⟩ := C.lowest
  obtain ⟨y3, D8⟩ := C.out
  walk_at "con fill"
  intro dp un gd frames base g s RR B X T hd hu hp hsz hk hA hn ret
  walk_at "con enter"
  k_steps
  (try dsimp only)
  rename Fr _ _ _ _ => F9
  rename News _ _ _ _ => N9
  exact hQ9 _ _ (ret _ _ F9.keep _ _ _ ⟨DictOK.putHit (DictOK.putHit D1 D6) (by walk_at "dk get"), by walk_at "dk get", by walk_at "dk get", by walk_at "dk get", by walk_at "dk get", ⟨_, by walk_at "dk get"⟩, getL_hitI (if_pos (by omega)), ⟨_, by walk_at "dk get"⟩, by walk_at "dk get", by walk_at "dk get", by walk_at "dk get", by walk_at "dk get", by walk_at "dk get", by walk_at "dk get"⟩ (news_ends N9))
abbrev reach_post (w : World) (x dx ty b p ft : Addr) (es : List DictEntry) (nn : Nat) (low k : Int) (t : Tok) : PostT := fun n G => ∀ (es' : List DictEntry) (n' : Nat), CoderD es' ty b p ft low low k → G ([(x, instObj 379 dx), (dx, dictOf es' n')]) (.none)
set_option maxHeartbeats 16000000 in
theorem reach_ok (w : World) (mean : ExcName → Option Value) (mg mb : Str → Option Value) (x dx ty b p ft : Addr) (es : List DictEntry) (nn : Nat) (low k : Int) (t : Tok) (hk : 0 ≤ k) (C : CoderD es ty b p ft low low 0) :
    Con w mean mg mb 750 276 [.ref x, .int k t] (fun _ => True) [(x, instObj 379 dx), (dx, dictOf es nn)] (reach_post w x dx ty b p ft es nn low k t) := by
  have D1 := C.ok
  have M1 := C.m1
  have M2 := C.m2
  have M3 := C.m3
  have M4 := C.m4
  have M5 := C.m5
  have M6 := C.m6
  have D2 := C.types
  have D3 := C.buf
  have D4 := C.pool
  have D5 := C.ft
  obtain ⟨y1, D6⟩ := C.low
  obtain ⟨y2, D7⟩ := C.lowest
  obtain ⟨y3, D8⟩ := C.out
  walk_at "con fill"
  intro dp un gd frames base g s RR B X T hd hu hp hsz hk hA hn ret
  walk_at "con enter"
  k_steps
  (try dsimp only)
  rename Fr _ _ _ _ => F9
  rename News _ _ _ _ => N9
  exact hQ9 _ _ (ret _ _ F9.keep _ _ ⟨DictOK.putHit D1 D8, by walk_at "dk get", by walk_at "dk get", by walk_at "dk get", by walk_at "dk get", ⟨_, by walk_at "dk get"⟩, ⟨_, by walk_at "dk get"⟩, getL_hitI (by split <;> omega), by walk_at "dk get", by walk_at "dk get", by walk_at "dk get", by walk_at "dk get", by walk_at "dk get", by walk_at "dk get"⟩ (news_ends N9))
abbrev frame_post (w : World) (x dx ty b p ft : Addr) (es : List DictEntry) (nn : Nat) (low k : Int) : PostT := fun n G => ∀ (t : Tok), G ([(x, instObj 379 dx), (dx, dictOf es nn)]) (.int (4 * k - low) t)
set_option maxHeartbeats 16000000 in
theorem frame_ok (w : World) (mean : ExcName → Option Value) (mg mb : Str → Option Value) (x dx ty b p ft : Addr) (es : List DictEntry) (nn : Nat) (low k : Int) (hk : 0 ≤ k) (C : CoderD es ty b p ft low low k) :
    Con w mean mg mb 800 269 [.ref x] (fun _ => True) [(x, instObj 379 dx), (dx, dictOf es nn)] (frame_post w x dx ty b p ft es nn low k) := by
  have D1 := C.ok
  have M1 := C.m1
  have M2 := C.m2
  have M3 := C.m3
  have M4 := C.m4
  have M5 := C.m5
  have M6 := C.m6
  have D2 := C.types
  have D3 := C.buf
  have D4 := C.pool
  have D5 := C.ft
  obtain ⟨y1, D6⟩ := C.low
  obtain ⟨y2, D7⟩ := C.lowest
  obtain ⟨y3, D8⟩ := C.out
  walk_at "con fill"
  intro dp un gd frames base g s RR B X T hd hu hp hsz hk hA hn ret
  walk_at "con enter"
  k_steps
  (try dsimp only)
  rename Fr _ _ _ _ => F9
  rename News _ _ _ _ => N9
  exact hQ9 _ _ (ret _ _ F9.keep _ (news_ends N9))
theorem rows_n8 : True := by
  w_top off
  k_with_none
  k_with "setat" => first | exact SetAt.head | (apply SetAt.tail; walk_at "setat")
  k_with "setF" => first | exact SetF.head | (apply SetF.tail; walk_at "setF")
  k_with "upd" => k_dflt (exact upd_sep (by with_reducible assumption) (by walk_at "setat") (by exact rfl) (by exact rfl))
  k_with "updF" => first | k_dflt (exact updF_sep (by with_reducible assumption) (by walk_at "setF") (by exact rfl) (by exact rfl)) | walk_at "updF2"
  k_with "cut" => first | exact Cut.nil | (apply Cut.take; walk_at "cut") | (apply Cut.keep; walk_at "cut")
  k_with "sub" => first | exact Sub.nil | (apply Sub.take; walk_at "sub") | (apply Sub.keep; walk_at "sub")
  k_with "con in" => repeat' (first | exact List.forall_mem_nil _ | refine List.forall_mem_cons.mpr ⟨by k_mem, ?_⟩)
  k_with "execs cons" => (k_here; (try k_made); (try k_gentoks); (refine wpAny_execs_cons (s := Shared.mk _ (Shared.gens s) (Shared.drawn s) _ (Shared.os s)) ?_); (try dsimp only); (try k_fold))
  k_with "con fill" => ((have hfill : PySem.Challenge.rw_pq0756_01 = PySem.Challenge.rw_pq0756_01 ∧ _root_.Mine.hd.heap_39 = _root_.Mine.hd.heap_39 := by (k_fill; exact ⟨rfl, rfl⟩)); clear hfill)
  k_with "con enter" => (refine' enter_def (w := _) (by assumption) (by assumption) (by assumption) (by assumption) (by assumption) (by assumption) (by assumption) (by (simp only [recursionLimit]; omega)) (by k_is) (by k_is) (by first | exact BindsTo.of_eq rfl | (refine' binds_K (by (refine' Frag.In.keeps (by assumption) (by assumption))) (by exact rfl) (by k_is) (by exact rfl) (by exact rfl) (by exact rfl)) | fail "con_enter: no rule for these arguments") (by exact locs rfl) (by exact rfl) ?_ (by exact rfl) (by exact rfl) (by exact rfl) (by decide); k_whole; intro L' h' Q9 E9 F' N' S' hE9 hQ9; (dsimp only [adrs, List.length_cons, List.length_nil] at S'); (try dsimp only))
  k_with "newTuple" => (k_here; (with_reducible rename Sep _ _ => S9); k_dflt (refine' newTuple_S (by k_asm) (by k_asm) S9 (by exact rfl) (by exact rfl) ?_; k_whole); intro l' h' F' N' S' l4; (try clear S9); (try k_sweep))
  k_with "newList" => (k_here; (with_reducible rename Sep _ _ => S9); k_dflt (refine' newList_S (by k_asm) (by k_asm) S9 (by exact rfl) (by exact rfl) ?_; k_whole); intro l' h' F' N' S' l4; (try clear S9); (try k_sweep))
  k_with "call ref" => (k_here; (with_reducible show wpAny _ _ (call (Value.ref _) _ _) _ _ _); (with_reducible rename Sep _ _ => S9); k_dflt (refine' call_clsS (by k_asm) (by k_asm) (by k_asm) S9 (by exact rfl) (by exact rfl) (by k_is) (by k_is) (by k_is) ?_; k_whole; intro x' d' h' F' N' S' l8 l9; (clear S9); (try k_sweep); k_enter))
  k_with "eval Dict nil nil" => (k_here; (with_reducible rename Sep _ _ => S9); k_dflt (refine' newDict_S (by k_asm) (by k_asm) S9 (by exact rfl) (by exact rfl) (TopRead.nolimit (by k_asm)) ?_; k_whole); intro d' h' o' F' N' S' l4 lo' hi' fi'; (try clear S9); (try k_sweep))
  k_with "call type:list" => (k_here; (with_reducible show wpAny _ _ (call (Value.type "list") [Value.ref _]) _ _ _); (with_reducible rename Sep _ _ => S9); k_dflt (refine' list_copyS (by k_asm) (by k_asm) S9 (by exact rfl) (by exact rfl) (by is_list) ?_ (by first | size_fits | ((rw [List.size_toArray, sizeLine_eq]); (simp only [List.length_append, List.length_cons, List.length_nil]); omega)); k_whole); intro D' c' h' F' N' S'; (try clear S9); (try k_sweep))
  k_with "con room" => first | k_dflt (exact Nat.le_of_ble_eq_true rfl) | k_dflt (exact room1 (by with_reducible assumption) rfl) | k_dflt (exact room2 (by with_reducible assumption) rfl) | k_dflt (exact room3 (by with_reducible assumption) rfl) | ((try simp only [depth_under_make, depth_under_kw, depth_in1, depth_deeper, depth_caller, units_in1, units_deeper, units_under_make, Around.mark_units, units_caller]); (try dsimp only); omega) | ((try simp only [Code.weight, Code.frames, Code.isCreation, Code.isGuard, Code.isCaller, Code.cUnits]); (try dsimp only); omega)
  k_with "call builtin:len" => (k_here; (with_reducible show wpAny _ _ (call (Value.builtin "len") [Value.ref _]) _ _ _); k_dflt (refine' kst_len (by k_asm) (by k_mem) rfl (by ((try simp only [List.length_append, List.length_cons, List.length_nil]); omega)) ?_; k_whole))
  trivial
abbrev setlast_post (w : World) (q b bd R : Addr) (r0 r1 r2 nm a1 b1 z0 v : Value) (zs : List Value) (nn nd : Nat) (t ti : Tok) : PostT := fun n G => ∀ (a : Addr) (nn' : Nat), @LE.le Nat _ n a → G ([(a, tupOf [nm, a1, b1, v]), (q, tupOf [nm, a1, b1, z0]), (b, instObj 143 bd), (bd, dictOf [ent w "rows" t (.ref R)] nd), (R, listOf (r0 :: r1 :: r2 :: Value.ref a :: zs).toArray nn')]) (.none)
set_option maxHeartbeats 16000000 in
theorem setlast_ok (w : World) (mean : ExcName → Option Value) (mg mb : Str → Option Value) (q b bd R : Addr) (r0 r1 r2 nm a1 b1 z0 v : Value) (zs : List Value) (nn nd : Nat) (t ti : Tok) (hz : zs.length ≤ 900) :
    Con w mean mg mb 800 140 [.ref b, .int 3 ti, v] (fun _ => True) [(q, tupOf [nm, a1, b1, z0]), (b, instObj 143 bd), (bd, dictOf [ent w "rows" t (.ref R)] nd), (R, listOf (r0 :: r1 :: r2 :: Value.ref q :: zs).toArray nn)] (setlast_post w q b bd R r0 r1 r2 nm a1 b1 z0 v zs nn nd t ti) := by
  walk_at "con fill"
  intro dp un gd frames base g s RR B X T hd hu hp hsz hk hA hn ret
  walk_at "con enter"
  k_steps
  (try dsimp only)
  rename Fr _ _ _ _ => F9
  rename News _ _ _ _ => N9
  exact hQ9 _ _ (ret _ _ F9.keep _ _ (by assumption) (news_ends N9))
theorem rows_n9 : True := by
  w_top off
  k_with_none
  k_with "setat" => first | exact SetAt.head | (apply SetAt.tail; walk_at "setat")
  k_with "setF" => first | exact SetF.head | (apply SetF.tail; walk_at "setF")
  k_with "upd" => k_dflt (exact upd_sep (by with_reducible assumption) (by walk_at "setat") (by exact rfl) (by exact rfl))
  k_with "updF" => first | k_dflt (exact updF_sep (by with_reducible assumption) (by walk_at "setF") (by exact rfl) (by exact rfl)) | walk_at "updF2"
  k_with "cut" => first | exact Cut.nil | (apply Cut.take; walk_at "cut") | (apply Cut.keep; walk_at "cut")
  k_with "sub" => first | exact Sub.nil | (apply Sub.take; walk_at "sub") | (apply Sub.keep; walk_at "sub")
  k_with "con in" => repeat' (first | exact List.forall_mem_nil _ | refine List.forall_mem_cons.mpr ⟨by k_mem, ?_⟩)
  k_with "execs cons" => (k_here; (try k_made); (try k_gentoks); (refine wpAny_execs_cons (s := Shared.mk _ (Shared.gens s) (Shared.drawn s) _ (Shared.os s)) ?_); (try dsimp only); (try k_fold))
  k_with "con fill" => ((have hfill : PySem.Challenge.rw_pq0756_01 = PySem.Challenge.rw_pq0756_01 ∧ _root_.Mine.hd.heap_39 = _root_.Mine.hd.heap_39 := by (k_fill; exact ⟨rfl, rfl⟩)); clear hfill)
  k_with "con enter" => (refine' enter_def (w := _) (by assumption) (by assumption) (by assumption) (by assumption) (by assumption) (by assumption) (by assumption) (by (simp only [recursionLimit]; omega)) (by k_is) (by k_is) (by first | exact BindsTo.of_eq rfl | (refine' binds_K (by (refine' Frag.In.keeps (by assumption) (by assumption))) (by exact rfl) (by k_is) (by exact rfl) (by exact rfl) (by exact rfl)) | fail "con_enter: no rule for these arguments") (by exact locs rfl) (by exact rfl) ?_ (by exact rfl) (by exact rfl) (by exact rfl) (by decide); k_whole; intro L' h' Q9 E9 F' N' S' hE9 hQ9; (dsimp only [adrs, List.length_cons, List.length_nil] at S'); (try dsimp only))
  k_with "newTuple" => (k_here; (with_reducible rename Sep _ _ => S9); k_dflt (refine' newTuple_S (by k_asm) (by k_asm) S9 (by exact rfl) (by exact rfl) ?_; k_whole); intro l' h' F' N' S' l4; (try clear S9); (try k_sweep))
  k_with "newList" => (k_here; (with_reducible rename Sep _ _ => S9); k_dflt (refine' newList_S (by k_asm) (by k_asm) S9 (by exact rfl) (by exact rfl) ?_; k_whole); intro l' h' F' N' S' l4; (try clear S9); (try k_sweep))
  k_with "call ref" => (k_here; (with_reducible show wpAny _ _ (call (Value.ref _) _ _) _ _ _); (with_reducible rename Sep _ _ => S9); k_dflt (refine' call_clsS (by k_asm) (by k_asm) (by k_asm) S9 (by exact rfl) (by exact rfl) (by k_is) (by k_is) (by k_is) ?_; k_whole; intro x' d' h' F' N' S' l8 l9; (clear S9); (try k_sweep); k_enter))
  k_with "eval Dict nil nil" => (k_here; (with_reducible rename Sep _ _ => S9); k_dflt (refine' newDict_S (by k_asm) (by k_asm) S9 (by exact rfl) (by exact rfl) (TopRead.nolimit (by k_asm)) ?_; k_whole); intro d' h' o' F' N' S' l4 lo' hi' fi'; (try clear S9); (try k_sweep))
  k_with "call type:list" => (k_here; (with_reducible show wpAny _ _ (call (Value.type "list") [Value.ref _]) _ _ _); (with_reducible rename Sep _ _ => S9); k_dflt (refine' list_copyS (by k_asm) (by k_asm) S9 (by exact rfl) (by exact rfl) (by is_list) ?_ (by first | size_fits | ((rw [List.size_toArray, sizeLine_eq]); (simp only [List.length_append, List.length_cons, List.length_nil]); omega)); k_whole); intro D' c' h' F' N' S'; (try clear S9); (try k_sweep))
  k_with "con room" => first | k_dflt (exact Nat.le_of_ble_eq_true rfl) | k_dflt (exact room1 (by with_reducible assumption) rfl) | k_dflt (exact room2 (by with_reducible assumption) rfl) | k_dflt (exact room3 (by with_reducible assumption) rfl) | ((try simp only [depth_under_make, depth_under_kw, depth_in1, depth_deeper, depth_caller, units_in1, units_deeper, units_under_make, Around.mark_units, units_caller]); (try dsimp only); omega) | ((try simp only [Code.weight, Code.frames, Code.isCreation, Code.isGuard, Code.isCaller, Code.cUnits]); (try dsimp only); omega)
  k_with "call builtin:len" => (k_here; (with_reducible show wpAny _ _ (call (Value.builtin "len") [Value.ref _]) _ _ _); k_dflt (refine' kst_len (by k_asm) (by k_mem) rfl (by ((try simp only [List.length_append, List.length_cons, List.length_nil]); omega)) ?_; k_whole))
  trivial
abbrev item_post (w : World) (x dx : Addr) (tm : Tok) (v : Value) : PostT := fun n G => ∀ (es : List DictEntry) (k : Nat), ItemD es → G ([(x, instObj 38 dx), (dx, dictOf es k)]) (.none)
set_option maxHeartbeats 16000000 in
theorem item_ok (w : World) (mean : ExcName → Option Value) (mg mb : Str → Option Value) (x dx : Addr) (tm : Tok) (v : Value)  :
    Con w mean mg mb 750 35 [.ref x, .str (Str.ofString "reg") tm, v] (fun _ => True) [(x, instObj 38 dx), (dx, dictOf [] 0)] (item_post w x dx tm v) := by
  walk_at "con fill"
  intro dp un gd frames base g s RR B X T hd hu hp hsz hk hA hn ret
  walk_at "con enter"
  k_steps
  (try dsimp only)
  rename Fr _ _ _ _ => F9
  rename News _ _ _ _ => N9
  have M9 : News _ _ _ ([(x, instObj 38 dx), (dx, dictOf _ _)] : Led) := News.sub N9 (by walk_at "sub")
  exact hQ9 _ _ (ret _ _ F9.keep _ _ (by exact ⟨⟨rfl, Nat.le_of_ble_eq_true rfl⟩, ⟨_, rfl⟩, ⟨_, rfl⟩⟩) (news_ends M9))
abbrev free_post (w : World) (p pd ow od : Addr) (t1 t2 t3 t4 tc : Tok) (k : Int) (v : Value) (oo : Obj) : PostT := fun n G => ∀ (t : Tok), G ([(p, instObj 237 pd), (pd, dictOf [ent w "count" t1 (.int k tc), ent w "owner" t2 (.ref ow), ent w "order" t3 (.ref od), ent w "spiller" t4 v] 4), (ow, oo)]) (.int 0 t)
set_option maxHeartbeats 16000000 in
theorem free_ok (w : World) (mean : ExcName → Option Value) (mg mb : Str → Option Value) (p pd ow od : Addr) (t1 t2 t3 t4 tc : Tok) (k : Int) (v : Value) (oo : Obj) (hk : 1 ≤ k) (hk2 : k ≤ 100) (hd : oo.IsDictOf (PySem.intKind PG w) []) (hf : PyProof.V.FlatPairs PyData.int [] []) (hlo : (ow == sysModules) = false) :
    Con w mean mg mb 850 200 [.ref p] (fun _ => True) [(p, instObj 237 pd), (pd, dictOf [ent w "count" t1 (.int k tc), ent w "owner" t2 (.ref ow), ent w "order" t3 (.ref od), ent w "spiller" t4 v] 4), (ow, oo)] (free_post w p pd ow od t1 t2 t3 t4 tc k v oo) := by
  (k_with "pyIter ref" => kf1_first)
  walk_at "con fill"
  intro dp un gd frames base g s RR B X T hd hu hp hsz hk hA hn ret
  walk_at "con enter"
  k_steps
  (try dsimp only)
  rename Fr _ _ _ _ => F9
  rename News _ _ _ _ => N9
  have M9 : News _ _ _ ([(p, instObj 237 pd), (pd, dictOf [ent w "count" t1 (.int k tc), ent w "owner" t2 (.ref ow), ent w "order" t3 (.ref od), ent w "spiller" t4 v] 4), (ow, oo)] : Led) := News.sub N9 (by walk_at "sub")
  exact hQ9 _ _ (ret_int (by first | exact rfl | omega) (ret _ _ F9.keep _ (news_ends M9)))
theorem words_n91 : True := by
  k_with "dk" => first | assumption | (refine' DictOK.put (by walk_at "dk"))
  k_with "dk get" => first | assumption | exact getL_hit | (refine' getL_miss' (by decide) (by walk_at "dk get")) | (refine' DictOK.isSome (by walk_at "dk"))
  trivial
local macro_rules | `(tactic| k_get) => `(tactic| walk_at "dk get")
theorem words_n92 : True := by
  k_with "setAttr ref" => (k_here; k_dflt (refine' set_dict (by k_asm) (by k_asm) (by k_asm) (by k_inst) (by exact rfl) (by k_is) (by k_is) (by k_is) (by k_is) (by (refine' DictOK.isSome (by walk_at "dk"))) (by exact rfl) (by k_upd) (by (refine' DictOK.len (by walk_at "dk") (by omega))) ?_; k_whole; intro h' F' N'; (try k_sweep)))
  k_with "call ref" => (k_here; (with_reducible show wpAny _ _ (call (Value.ref 200) _) _ _ _); (with_reducible rename Sep _ _ => S9); k_dflt (refine' con_use (by k_asm) (by k_asm) (by k_asm) (by k_asm) (by k_asm) S9 (by walk_at "cut") (free_ok _ _ _ _ _ _ _ _ _ _ _ _ _ _ _ _ (by omega) (by omega) (by assumption) (by assumption) (by assumption)) (by exact rfl) (by exact rfl) (by walk_at "con room") (by walk_at "con room") (by exact rfl) (by exact rfl) (by exact rfl) (by first | assumption | exact rfl) (by exact fun _ _ _ => True.intro) ?_; k_whole); (intro n' h' tk' XX' F' fr' l4 lf'); (intro t' hX'); (have N' := lf' _ hX'); (clear hX'); (clear lf'); (clear XX'); (have S' := Fresh.none fr'); (clear fr'); (dsimp only [List.cons_append, List.nil_append] at N' S'); (try clear S9); (try dsimp only); (try k_sweep))
  trivial
abbrev take_post (w : World) (it itd p pd ow od : Addr) (t1 t2 t3 t4 tc : Tok) (k : Int) (v : Value) (oo : Obj) (c m : Nat) (es : List DictEntry) : PostT := fun n G => ∀ (o' : Obj) (es' : List DictEntry) (m' : Nat) (t t'' : Tok) (c' : Nat), o'.IsDictOf (PySem.intKind PG w) [(0, .ref it)] → ItemD es' → (∃ t, getL (Str.ofString "reg") es' = some (some (.int 0 t))) → G ([(it, instObj 38 itd), (itd, dictOf es' m'), (p, instObj 237 pd), (pd, dictOf [ent w "count" t1 (.int k tc), ent w "owner" t2 (.ref ow), ent w "order" t3 (.ref od), ent w "spiller" t4 v] 4), (ow, o'), (od, listOf #[.int 0 t''] c')]) (.int 0 t)
set_option maxHeartbeats 16000000 in
theorem take_ok (w : World) (mean : ExcName → Option Value) (mg mb : Str → Option Value) (it itd p pd ow od : Addr) (t1 t2 t3 t4 tc : Tok) (k : Int) (v : Value) (oo : Obj) (c m : Nat) (es : List DictEntry) (I : ItemD es) (hk : 1 ≤ k) (hk2 : k ≤ 100) (hd : oo.IsDictOf (PySem.intKind PG w) []) (hf : PyProof.V.FlatPairs PyData.int [] []) (hlo : (ow == sysModules) = false) :
    Con w mean mg mb 700 215 [.ref p, .ref it, .none] (fun _ => True) [(it, instObj 38 itd), (itd, dictOf es m), (p, instObj 237 pd), (pd, dictOf [ent w "count" t1 (.int k tc), ent w "owner" t2 (.ref ow), ent w "order" t3 (.ref od), ent w "spiller" t4 v] 4), (ow, oo), (od, listOf #[] c)] (take_post w it itd p pd ow od t1 t2 t3 t4 tc k v oo c m es) := by
  have D1 := I.ok
  obtain ⟨y1, D2⟩ := I.mode
  obtain ⟨y2, D3⟩ := I.reg
  walk_at "con fill"
  intro dp un gd frames base g s RR B X T hd hu hp hsz hk hA hn ret
  walk_at "con enter"
  k_steps
  (try dsimp only)
  rename Fr _ _ _ _ => F9
  rename News _ _ _ _ => N9
  have M9 : News _ _ _ ([(it, instObj 38 itd), (itd, dictOf _ _), (p, instObj 237 pd), (pd, dictOf [ent w "count" t1 (.int k tc), ent w "owner" t2 (.ref ow), ent w "order" t3 (.ref od), ent w "spiller" t4 v] 4), (ow, _), (od, listOf #[.int 0 _] _)] : Led) := News.pick N9 (by walk_at "con in")
  exact hQ9 _ _ (ret _ _ F9.keep _ _ _ _ _ _ (by assumption) (by exact ⟨D1.putHit D3, ⟨_, by walk_at "dk get"⟩, ⟨_, by walk_at "dk get"⟩⟩) (by exact ⟨_, by walk_at "dk get"⟩) (news_ends M9))
theorem rows_n10 : True := by
  w_top off
  k_with_none
  k_with "setat" => first | exact SetAt.head | (apply SetAt.tail; walk_at "setat")
  k_with "setF" => first | exact SetF.head | (apply SetF.tail; walk_at "setF")
  k_with "upd" => k_dflt (exact upd_sep (by with_reducible assumption) (by walk_at "setat") (by exact rfl) (by exact rfl))
  k_with "updF" => first | k_dflt (exact updF_sep (by with_reducible assumption) (by walk_at "setF") (by exact rfl) (by exact rfl)) | walk_at "updF2"
  k_with "cut" => first | exact Cut.nil | (apply Cut.take; walk_at "cut") | (apply Cut.keep; walk_at "cut")
  k_with "sub" => first | exact Sub.nil | (apply Sub.take; walk_at "sub") | (apply Sub.keep; walk_at "sub")
  k_with "con in" => repeat' (first | exact List.forall_mem_nil _ | refine List.forall_mem_cons.mpr ⟨by k_mem, ?_⟩)
  k_with "execs cons" => (k_here; (try k_made); (try k_gentoks); (refine wpAny_execs_cons (s := Shared.mk _ (Shared.gens s) (Shared.drawn s) _ (Shared.os s)) ?_); (try dsimp only); (try k_fold))
  k_with "con fill" => ((have hfill : PySem.Challenge.rw_pq0756_01 = PySem.Challenge.rw_pq0756_01 ∧ _root_.Mine.hd.heap_39 = _root_.Mine.hd.heap_39 := by (k_fill; exact ⟨rfl, rfl⟩)); clear hfill)
  k_with "con enter" => (refine' enter_def (w := _) (by assumption) (by assumption) (by assumption) (by assumption) (by assumption) (by assumption) (by assumption) (by (simp only [recursionLimit]; omega)) (by k_is) (by k_is) (by first | exact BindsTo.of_eq rfl | (refine' binds_K (by (refine' Frag.In.keeps (by assumption) (by assumption))) (by exact rfl) (by k_is) (by exact rfl) (by exact rfl) (by exact rfl)) | fail "con_enter: no rule for these arguments") (by exact locs rfl) (by exact rfl) ?_ (by exact rfl) (by exact rfl) (by exact rfl) (by decide); k_whole; intro L' h' Q9 E9 F' N' S' hE9 hQ9; (dsimp only [adrs, List.length_cons, List.length_nil] at S'); (try dsimp only))
  k_with "newTuple" => (k_here; (with_reducible rename Sep _ _ => S9); k_dflt (refine' newTuple_S (by k_asm) (by k_asm) S9 (by exact rfl) (by exact rfl) ?_; k_whole); intro l' h' F' N' S' l4; (try clear S9); (try k_sweep))
  k_with "newList" => (k_here; (with_reducible rename Sep _ _ => S9); k_dflt (refine' newList_S (by k_asm) (by k_asm) S9 (by exact rfl) (by exact rfl) ?_; k_whole); intro l' h' F' N' S' l4; (try clear S9); (try k_sweep))
  k_with "call ref" => (k_here; (with_reducible show wpAny _ _ (call (Value.ref _) _ _) _ _ _); (with_reducible rename Sep _ _ => S9); k_dflt (refine' call_clsS (by k_asm) (by k_asm) (by k_asm) S9 (by exact rfl) (by exact rfl) (by k_is) (by k_is) (by k_is) ?_; k_whole; intro x' d' h' F' N' S' l8 l9; (clear S9); (try k_sweep); k_enter))
  k_with "eval Dict nil nil" => (k_here; (with_reducible rename Sep _ _ => S9); k_dflt (refine' newDict_S (by k_asm) (by k_asm) S9 (by exact rfl) (by exact rfl) (TopRead.nolimit (by k_asm)) ?_; k_whole); intro d' h' o' F' N' S' l4 lo' hi' fi'; (try clear S9); (try k_sweep))
  k_with "call type:list" => (k_here; (with_reducible show wpAny _ _ (call (Value.type "list") [Value.ref _]) _ _ _); (with_reducible rename Sep _ _ => S9); k_dflt (refine' list_copyS (by k_asm) (by k_asm) S9 (by exact rfl) (by exact rfl) (by is_list) ?_ (by first | size_fits | ((rw [List.size_toArray, sizeLine_eq]); (simp only [List.length_append, List.length_cons, List.length_nil]); omega)); k_whole); intro D' c' h' F' N' S'; (try clear S9); (try k_sweep))
  k_with "con room" => first | k_dflt (exact Nat.le_of_ble_eq_true rfl) | k_dflt (exact room1 (by with_reducible assumption) rfl) | k_dflt (exact room2 (by with_reducible assumption) rfl) | k_dflt (exact room3 (by with_reducible assumption) rfl) | ((try simp only [depth_under_make, depth_under_kw, depth_in1, depth_deeper, depth_caller, units_in1, units_deeper, units_under_make, Around.mark_units, units_caller]); (try dsimp only); omega) | ((try simp only [Code.weight, Code.frames, Code.isCreation, Code.isGuard, Code.isCaller, Code.cUnits]); (try dsimp only); omega)
  k_with "call builtin:len" => (k_here; (with_reducible show wpAny _ _ (call (Value.builtin "len") [Value.ref _]) _ _ _); k_dflt (refine' kst_len (by k_asm) (by k_mem) rfl (by ((try simp only [List.length_append, List.length_cons, List.length_nil]); omega)) ?_; k_whole))
  trivial
abbrev give_post (w : World) (p pd ow od it : Addr) (t1 t2 t3 t4 tc t t' : Tok) (k : Int) (v : Value) (oo : Obj) (c : Nat) : PostT := fun n G => ∀ (o' : Obj) (c' : Nat), G ([(p, instObj 237 pd), (pd, dictOf [ent w "count" t1 (.int k tc), ent w "owner" t2 (.ref ow), ent w "order" t3 (.ref od), ent w "spiller" t4 v] 4), (ow, o'), (od, listOf #[] c')]) (.none)
set_option maxHeartbeats 16000000 in
theorem give_ok (w : World) (mean : ExcName → Option Value) (mg mb : Str → Option Value) (p pd ow od it : Addr) (t1 t2 t3 t4 tc t t' : Tok) (k : Int) (v : Value) (oo : Obj) (c : Nat) (hd : oo.IsDictOf (PySem.intKind PG w) [(0, .ref it)]) (hlo : (ow == sysModules) = false) :
    Con w mean mg mb 800 229 [.ref p, .int 0 t] (fun _ => True) [(p, instObj 237 pd), (pd, dictOf [ent w "count" t1 (.int k tc), ent w "owner" t2 (.ref ow), ent w "order" t3 (.ref od), ent w "spiller" t4 v] 4), (ow, oo), (od, listOf #[.int 0 t'] c)] (give_post w p pd ow od it t1 t2 t3 t4 tc t t' k v oo c) := by
  walk_at "con fill"
  intro dp un gd frames base g s RR B X T hd hu hp hsz hk hA hn ret
  walk_at "con enter"
  k_steps
  (try dsimp only)
  rename Fr _ _ _ _ => F9
  rename News _ _ _ _ => N9
  have M9 : News _ _ _ ([(p, instObj 237 pd), (pd, dictOf [ent w "count" t1 (.int k tc), ent w "owner" t2 (.ref ow), ent w "order" t3 (.ref od), ent w "spiller" t4 v] 4), (ow, _), (od, listOf #[] _)] : Led) := News.sub N9 (by walk_at "sub")
  exact hQ9 _ _ (ret _ _ F9.keep _ _ (news_ends M9))
theorem words_n101 : True := by
  k_with "dk" => first | assumption | (refine' DictOK.put (by walk_at "dk"))
  k_with "dk get" => first | assumption | exact getL_hit | (refine' getL_miss' (by decide) (by walk_at "dk get")) | (refine' DictOK.isSome (by walk_at "dk"))
  trivial
local macro_rules | `(tactic| k_get) => `(tactic| walk_at "dk get")
theorem words_n102 : True := by
  k_with "setAttr ref" => (k_here; k_dflt (refine' set_dict (by k_asm) (by k_asm) (by k_asm) (by k_inst) (by exact rfl) (by k_is) (by k_is) (by k_is) (by k_is) (by (refine' DictOK.isSome (by walk_at "dk"))) (by exact rfl) (by k_upd) (by (refine' DictOK.len (by walk_at "dk") (by omega))) ?_; k_whole; intro h' F' N'; (try k_sweep)))
  k_with "call ref" => (k_here; (with_reducible show wpAny _ _ (call (Value.ref 229) _) _ _ _); (with_reducible rename Sep _ _ => S9); k_dflt (refine' con_use (by k_asm) (by k_asm) (by k_asm) (by k_asm) (by k_asm) S9 (by walk_at "cut") (give_ok _ _ _ _ _ _ _ _ _ _ _ _ _ _ _ _ _ _ _ _ (by assumption) (by assumption)) (by exact rfl) (by exact rfl) (by walk_at "con room") (by walk_at "con room") (by exact rfl) (by exact rfl) (by exact rfl) (by first | assumption | exact rfl) (by exact fun _ _ _ => True.intro) ?_; k_whole); (intro n' h' tk' XX' F' fr' l4 lf'); (intro o'' c'' hX'); (have N' := lf' _ hX'); (clear hX'); (clear lf'); (clear XX'); (have S' := Fresh.none fr'); (clear fr'); (dsimp only [List.cons_append, List.nil_append] at N' S'); (try clear S9); (try dsimp only); (try k_sweep))
  trivial
abbrev release_post (w : World) (it itd p pd ow od x dx ty b ft : Addr) (ces : List DictEntry) (cn : Nat) (t1 t2 t3 t4 tc t' : Tok) (k low lowest out : Int) (v : Value) (oo : Obj) (c m : Nat) (es : List DictEntry) : PostT := fun n G => ∀ (o' : Obj) (c' : Nat) (es' : List DictEntry) (m' : Nat), G ([(x, instObj 379 dx), (dx, dictOf ces cn), (it, instObj 38 itd), (itd, dictOf es' m'), (p, instObj 237 pd), (pd, dictOf [ent w "count" t1 (.int k tc), ent w "owner" t2 (.ref ow), ent w "order" t3 (.ref od), ent w "spiller" t4 v] 4), (ow, o'), (od, listOf #[] c')]) (.none)
set_option maxHeartbeats 16000000 in
theorem release_ok (w : World) (mean : ExcName → Option Value) (mg mb : Str → Option Value) (it itd p pd ow od x dx ty b ft : Addr) (ces : List DictEntry) (cn : Nat) (t1 t2 t3 t4 tc t' : Tok) (k low lowest out : Int) (v : Value) (oo : Obj) (c m : Nat) (es : List DictEntry) (C : CoderD ces ty b p ft low lowest out) (I : ItemD es) (hreg : ∃ t, getL (Str.ofString "reg") es = some (some (.int 0 t))) (hd : oo.IsDictOf (PySem.intKind PG w) [(0, .ref it)]) (hlo : (ow == sysModules) = false) :
    Con w mean mg mb 700 327 [.ref x, .ref it] (fun _ => True) [(x, instObj 379 dx), (dx, dictOf ces cn), (it, instObj 38 itd), (itd, dictOf es m), (p, instObj 237 pd), (pd, dictOf [ent w "count" t1 (.int k tc), ent w "owner" t2 (.ref ow), ent w "order" t3 (.ref od), ent w "spiller" t4 v] 4), (ow, oo), (od, listOf #[.int 0 t'] c)] (release_post w it itd p pd ow od x dx ty b ft ces cn t1 t2 t3 t4 tc t' k low lowest out v oo c m es) := by
  have D1 := I.ok
  obtain ⟨y1, D2⟩ := I.mode
  obtain ⟨y2, D3⟩ := hreg
  have D4 := C.ok
  have D5 := C.pool
  walk_at "con fill"
  intro dp un gd frames base g s RR B X T hd hu hp hsz hk hA hn ret
  walk_at "con enter"
  k_steps
  (try dsimp only)
  rename Fr _ _ _ _ => F9
  rename News _ _ _ _ => N9
  have M9 : News _ _ _ ([(x, instObj 379 dx), (dx, dictOf ces cn), (it, instObj 38 itd), (itd, dictOf _ _), (p, instObj 237 pd), (pd, dictOf [ent w "count" t1 (.int k tc), ent w "owner" t2 (.ref ow), ent w "order" t3 (.ref od), ent w "spiller" t4 v] 4), (ow, _), (od, listOf #[] _)] : Led) := News.pick N9 (by walk_at "con in")
  exact hQ9 _ _ (ret _ _ F9.keep _ _ _ _ (news_ends M9))
section
variable {prog : Program} {w : World} {A : Around} {E : Value → Shared → Prop} {s : Shared} {env : Env} {h₀ : Heap} {x : Str} {body : List Stmt} {Q : Flow → Shared → Prop}
theorem UnrPost.mono {L I : Addr} {it : Obj} {s₁ s₂ : Shared} {f : Flow} {r r' : (Str → Option Value) → Led → Prop} (h : UnrPost h₀ L s₁ I it r Q f s₂) (hr : ∀ m n, r m n → r' m n) : UnrPost h₀ L s₁ I it r' Q f s₂ := by
  cases f with
  | ret v => exact h
  | brk => exact h
  | next => obtain ⟨h', tk, m', n', e, F, N, o, q⟩ := h; exact ⟨h', tk, m', n', e, F, N, o, hr _ _ q⟩
  | cont => obtain ⟨h', tk, m', n', e, F, N, o, q⟩ := h; exact ⟨h', tk, m', n', e, F, N, o, hr _ _ q⟩
/-- a loop over a range by what holds before each turn; the ledger may grow -/
theorem range_unr {r : Addr} {a₀ b₀ : Int} {t₀ u₀ v₀ : Tok} {n : Nat} {m₀ : Str → Option Value} {news : Led} (J : Addr → Nat → Nat → (Str → Option Value) → Led → Prop)
    (hh : A.handled = none) (hr : IsRange s.heap r a₀ b₀ 1 t₀ u₀ v₀) (hsmall : Builtin.Range.small a₀ b₀ 1 = true) (hn : Builtin.Range.rangeSize a₀ b₀ 1 = (n : Int)) (F : Fr h₀ env.locals s.heap m₀) (N : News h₀ env.locals s.heap news)
    (start : ∀ I : Addr, (∀ p ∈ news, p.1 < I) → J I n 0 m₀ news)
    (turn : ∀ I k i m nx, J I (k + 1) i m nx → ∀ t h tk, Fr h₀ env.locals h (fun y => if y = x then some (.int (a₀ + (i : Int)) t) else m y) → News h₀ env.locals h ((I, itR (a₀ + ((i + 1 : Nat) : Int)) ((n : Int) - ((i + 1 : Nat) : Int))) :: nx) →
      wpAny (model prog w) A (execs body env) (UnrPost h₀ env.locals { s with heap := h, toks := tk } I (itR (a₀ + ((i + 1 : Nat) : Int)) ((n : Int) - ((i + 1 : Nat) : Int))) (J I k (i + 1)) Q) E { s with heap := h, toks := tk })
    (done : ∀ I i m nx, J I 0 i m nx → ∀ h tk, Fr h₀ env.locals h m → News h₀ env.locals h nx → Q .next { s with heap := h, toks := tk }) :
    wpAny (model prog w) A (pyIter (.ref r)) (fun it s₂ => LoopAtV prog w A h₀ env x body Q E it s₂) E s := by
  refine iter_rangeUnr hh hr hsmall hn F N fun I hI => ?_
  have key : ∀ k i m nx, J I k i m nx → RangeRest prog w A E h₀ env x body Q s I a₀ n k i m nx := by
    intro k
    induction k with
    | zero => exact fun i m nx hJ => RangeRest.zero (done I i m nx hJ)
    | succ k ih => exact fun i m nx hJ => RangeRest.succ fun t h tk F' N' => wpAny_mono (turn I k i m nx hJ t h tk F' N') (fun _ _ q => UnrPost.mono q fun m' n' => ih (i + 1) m' n') fun _ _ q => q
  exact key n 0 m₀ news (start I hI)
theorem off_same {m₁ m₀ : Str → Option Value} {v : Option Value} (h : ∀ z, z ≠ x → m₁ z = m₀ z) : (fun y => if y = x then v else m₁ y) = fun y => if y = x then v else m₀ y := by
  funext y
  by_cases e : y = x
  · rw [if_pos e, if_pos e]
  · rw [if_neg e, if_neg e, h y e]
end
theorem News.tl0 {h₀ h : Heap} {L : Addr} {P Ts r : Led} (N : News h₀ L h ((P ++ Ts) ++ r)) : News h₀ L h ((P ++ r) ++ Ts) := fun p hp => N p (by
  simp only [List.mem_append] at hp ⊢
  rcases hp with (h | h) | h
  · exact .inl (.inl h)
  · exact .inr h
  · exact .inl (.inr h))
theorem News.snoc {h₀ h : Heap} {L : Addr} {P Ts : Led} {q : Addr × Obj} (N : News h₀ L h (q :: (P ++ Ts))) : News h₀ L h (P ++ (q :: Ts)) := fun p hp => N p (by
  rcases List.mem_append.mp hp with h | h
  · exact .tail _ (List.mem_append_left _ h)
  · rcases List.mem_cons.mp h with rfl | h
    · exact .head _
    · exact .tail _ (List.mem_append_right _ h))
theorem Fresh.tail0 {n as} {Ts : Led} (h : Fresh n as []) (ha : ∀ p ∈ Ts, n ≤ (p.1 : Nat)) : Sep as Ts := by
  have := h.tail ha
  rwa [List.append_nil] at this
theorem Fresh.one_tail0 {n as} {Ts : Led} {q : Nat} (h : Fresh n as []) (hq : n ≤ q) (ha : ∀ p ∈ Ts, n ≤ (p.1 : Nat)) (hne : ∀ p ∈ Ts, (p.1 : Nat) ≠ q) : Sep (q :: as) Ts := by
  have := h.one_tail hq ha hne
  rwa [List.append_nil] at this
/-- the first explicit address joins the opaque ones -/
theorem Sep.toTail {a : Nat} {o : Obj} {as : List Nat} {Rs : Led} (S : Sep (a :: as) Rs) : Sep as ((a, o) :: Rs) :=
  ⟨(List.nodup_cons.mp S.1).2, fun p hp m => by
    rcases List.mem_cons.mp hp with rfl | hp
    · exact (List.nodup_cons.mp S.1).1 m
    · exact S.2 p hp (.tail _ m)⟩
theorem Sep.head_ne {a : Nat} {as : List Nat} {l Rs : Led} (S : Sep (a :: as) Rs) (h1 : adrs as.length l = as) (h2 : l.drop as.length = Rs) : ∀ p ∈ l, p.1 ≠ a := fun p hp e => by
  rw [← List.take_append_drop as.length l] at hp
  rcases List.mem_append.mp hp with hp | hp
  · refine (List.nodup_cons.mp S.1).1 ?_
    rw [adrs_split h1]
    exact List.mem_map.mpr ⟨p, hp, e⟩
  · exact S.2 p (h2 ▸ hp) (e ▸ .head _)
theorem Sep.tailS {a : Nat} {as : List Nat} {Rs : Led} (S : Sep (a :: as) Rs) : Sep as Rs := ⟨(List.nodup_cons.mp S.1).2, fun p hp m => S.2 p hp (.tail _ m)⟩
theorem zstrs_snoc (off : Int) : ∀ (n : Nat) (i : Int), zstrs off (n + 1) i = zstrs off n i ++ [.str 10 11 (off + 4 * (i + n))]
  | 0, i => by simp [zstrs]
  | n + 1, i => by
    rw [zstrs, zstrs_snoc off n (i + 1), zstrs]
    simp only [List.cons_append]
    congr 4
    omega
theorem RowsIn.snoc {T : Led} {a : Addr} {ws : List Value} {y : Ins} {vs : List Value} {is : List Ins} (h : RowsIn T vs is) (hi : InsIs y ws) : RowsIn ((a, tupOf ws) :: T) (vs ++ [.ref a]) (is ++ [y]) :=
  (h.mono fun p hp => .tail _ hp).append (.cons (.head _) hi .nil)
theorem RowsIn.put {T : Led} {a : Addr} {ws : List Value} {y : Ins} {vs : List Value} {is : List Ins} (hi : InsIs y ws) (h : RowsIn T vs is) (hm : ∀ p ∈ T, p ∈ T) : RowsIn ((a, tupOf ws) :: T) (.ref a :: vs) (y :: is) := .cons (.head _) hi (h.mono fun p hp => .tail _ (hm p hp))
theorem ge_cons {n : Nat} {a : Addr} {o : Obj} {Ts : Led} (h : @LE.le Nat _ n a) (hs : ∀ q ∈ Ts, @LE.le Nat _ n q.1) : ∀ q ∈ (a, o) :: Ts, @LE.le Nat _ n q.1 := fun q hq => by
  rcases List.mem_cons.mp hq with rfl | hq
  · exact h
  · exact hs q hq
/-- what holds before each turn of the loop that writes the zeroing rows -/
def zJ (w : World) (b bd R : Addr) (nd : Nat) (t : Tok) (vs : List Value) (a0 : Addr) (rst : Led) (as : List Nat) (off : Int) (n₀ nw : Nat) (m₀ : Str → Option Value) (I : Addr) (k i : Nat) (m : Str → Option Value) (nx : Led) : Prop :=
  ∃ zs Ts nn ws, nx = (a0, tupOf ws) :: (b, instObj 143 bd) :: (bd, dictOf [ent w "rows" t (.ref R)] nd) :: (R, listOf (vs ++ zs).toArray nn) :: (rst ++ Ts) ∧ InsIs (.movi 10 0) ws ∧ i + k = nw ∧ RowsIn Ts zs (zstrs off i 0) ∧ Sep (I :: a0 :: b :: bd :: R :: as) Ts ∧ (∀ q ∈ Ts, @LE.le Nat _ n₀ q.1) ∧ ∀ z, z ≠ Str.ofString "place" → m z = m₀ z
theorem z_end {w : World} {b bd R a a0 I : Addr} {it : Obj} {nd nn : Nat} {t : Tok} {vs zs ws ws0 : List Value} {rst Ts : Led} {as : List Nat} {off : Int} {n₀ nw k i : Nat} {m₀ m' : Str → Option Value} {h₀ h' : Heap} {L : Addr} {s₁ : Shared} {tk : Nat}
    (F : Fr h₀ L h' m') (N : News h₀ L h' ((a, tupOf ws) :: (b, instObj 143 bd) :: (bd, dictOf [ent w "rows" t (.ref R)] nd) :: (R, listOf (vs ++ zs ++ [Value.ref a]).toArray nn) :: (I, it) :: (a0, tupOf ws0) :: (rst ++ Ts))) (S : Sep (a :: b :: bd :: R :: I :: a0 :: as) Ts)
    (h1 : adrs as.length (rst ++ Ts) = as) (h2 : (rst ++ Ts).drop as.length = Ts) (hR : RowsIn Ts zs (zstrs off i 0)) (hi0 : InsIs (.movi 10 0) ws0) (hi : InsIs (.str 10 11 (off + 4 * i)) ws) (ha : @LE.le Nat _ n₀ a) (hle : ∀ q ∈ Ts, @LE.le Nat _ n₀ q.1) (hik : i + (k + 1) = nw) (hm : ∀ z, z ≠ Str.ofString "place" → m' z = m₀ z) :
    UnrEnd h₀ L s₁ I it (zJ w b bd R nd t vs a0 rst as off n₀ nw m₀ I k (i + 1)) { s₁ with heap := h', toks := tk } := by
  have P : (a :: b :: bd :: R :: I :: a0 :: as : List Nat).Perm (a :: I :: a0 :: b :: bd :: R :: as) := by
    refine List.Perm.cons _ ?_
    have e1 : (b :: bd :: R :: I :: a0 :: as : List Nat) = [b, bd, R] ++ ([I, a0] ++ as) := rfl
    have e2 : (I :: a0 :: b :: bd :: R :: as : List Nat) = [I, a0] ++ ([b, bd, R] ++ as) := rfl
    rw [e1, e2, ← List.append_assoc, ← List.append_assoc]
    exact List.Perm.append_right _ List.perm_append_comm
  have S1 : Sep (a :: I :: a0 :: b :: bd :: R :: as) Ts := ⟨P.nodup_iff.mp S.1, fun p hp m => S.2 p hp (P.mem_iff.mpr m)⟩
  have S2 : Sep (I :: a0 :: b :: bd :: R :: as) ((a, tupOf ws) :: Ts) := S1.toTail
  refine UnrEnd.intro F N ((a0, tupOf ws0) :: (b, instObj 143 bd) :: (bd, dictOf [ent w "rows" t (.ref R)] nd) :: (R, listOf (vs ++ (zs ++ [Value.ref a])).toArray nn) :: (rst ++ ((a, tupOf ws) :: Ts))) ?_ ?_ ⟨zs ++ [Value.ref a], (a, tupOf ws) :: Ts, nn, ws0, rfl, hi0, by omega, ?_, S2, ge_cons ha hle, hm⟩
  · rw [← List.append_assoc]
    intro p hp
    simp only [List.mem_cons, List.mem_append] at hp ⊢
    rcases hp with h | h | h | h | h | h | h | h <;> simp [h]
  · intro p hp e
    have nI := List.nodup_cons.mp S2.1
    have inT : ∀ q ∈ rst ++ Ts, q ∈ Ts ∨ (q.1 : Nat) ∈ as := fun q hq => by
      rw [← List.take_append_drop as.length (rst ++ Ts)] at hq
      rcases List.mem_append.mp hq with hq | hq
      · right; rw [adrs_split h1]; exact List.mem_map_of_mem hq
      · left; rw [← h2]; exact hq
    have inRs : ∀ q ∈ (a, tupOf ws) :: Ts, q.1 ≠ I := fun q hq e => S2.2 q hq (e ▸ .head _)
    have exA : ∀ z ∈ as, z ≠ I := fun z hz e => nI.1 (e ▸ .tail _ (.tail _ (.tail _ (.tail _ hz))))
    rcases List.mem_cons.mp hp with rfl | hp
    · exact nI.1 (e ▸ .head _)
    rcases List.mem_cons.mp hp with rfl | hp
    · exact nI.1 (e ▸ .tail _ (.head _))
    rcases List.mem_cons.mp hp with rfl | hp
    · exact nI.1 (e ▸ .tail _ (.tail _ (.head _)))
    rcases List.mem_cons.mp hp with rfl | hp
    · exact nI.1 (e ▸ .tail _ (.tail _ (.tail _ (.head _))))
    rcases List.mem_append.mp hp with hp | hp
    · rcases inT p (List.mem_append_left _ hp) with hT | ha
      · exact inRs p (.tail _ hT) e
      · exact exA _ ha e
    · exact inRs p hp e
  · rw [zstrs_snoc]
    refine hR.snoc ?_
    rw [show (0 : Int) + (i : Int) = i by omega]
    exact hi
theorem zrows_few {off : Int} {n : Nat} (h0 : n ≠ 0) (h : n ≤ 4) : zrows off n = .movi 10 0 :: zstrs off n 0 := by
  unfold zrows
  rw [if_neg h0, if_pos h]
theorem RowsIn.few {T : Led} {a : Addr} {ws zs : List Value} {off : Int} {n : Nat} (h0 : n ≠ 0) (h4 : n ≤ 4) (hi : InsIs (.movi 10 0) ws) (h : RowsIn T zs (zstrs off n 0)) : RowsIn ((a, tupOf ws) :: T) (.ref a :: zs) (zrows off n) := by
  rw [zrows_few h0 h4]
  exact .cons (.head _) hi (h.mono fun p hp => .tail _ hp)
theorem small_nat {n : Nat} (h : n ≤ 9) : Builtin.Range.small 0 (n : Int) 1 = true := small_one (by decide) (by decide) (by omega) (by omega)
theorem size_nat {n : Nat} : Builtin.Range.rangeSize 0 (n : Int) 1 = (n : Int) := by rw [rangeSize_nat]; omega
theorem zs_len {T : Led} {zs : List Value} {off : Int} {i : Nat} (h : RowsIn T zs (zstrs off i 0)) : zs.length = i := by
  rw [h.length]
  have : ∀ (n : Nat) (j : Int), (zstrs off n j).length = n := by
    intro n
    induction n with
    | zero => intro j; rfl
    | succ n ih => intro j; rw [zstrs, List.length_cons, ih]
  exact this i 0
theorem Cut.narrow {as l A r x y Rs} (h : Cut as l A r x y) (S : Sep as Rs) (h1 : adrs as.length l = as) (h2 : l.drop as.length = Rs) : Sep x r := by
  have hnd : (x ++ y).Nodup := h.perm.nodup_iff.mpr S.1
  refine ⟨(List.nodup_append.mp hnd).1, fun p hp m => ?_⟩
  rcases h.inR h1 h2 p hp with hR | hy
  · exact S.2 p hR (h.perm.mem_iff.mp (List.mem_append_left _ m))
  · exact (List.nodup_append.mp hnd).2.2 _ m _ hy rfl
/-- the objects behind the n-th place bear no address of those ahead of it -/
theorem Sep.ne_rest {Rs : Led} {q : Nat} : ∀ (n : Nat) {as : List Nat} {l : Led}, Sep as Rs → adrs as.length l = as → l.drop as.length = Rs → Nat.ble n as.length = true → q ∈ as.take n → ∀ p ∈ l.drop n, (p.1 : Nat) ≠ q
  | 0, _, _, _, _, _, _, hq, _, _ => by cases hq
  | n + 1, [], _, _, _, _, hn, _, _, _ => by cases hn
  | n + 1, a :: as, [], _, h1, _, _, _, _, _ => by cases h1
  | n + 1, a :: as, z :: l, S, h1, h2, hn, hq, p, hp => by
    rw [List.length_cons, adrs, List.cons.injEq] at h1
    rw [List.length_cons, List.drop_succ_cons] at h2
    rw [List.drop_succ_cons] at hp
    rw [List.take_succ_cons] at hq
    rcases List.mem_cons.mp hq with rfl | hq
    · intro e
      have hp' := List.mem_of_mem_drop hp
      rw [← List.take_append_drop as.length l] at hp'
      rcases List.mem_append.mp hp' with hp' | hp'
      · refine (List.nodup_cons.mp S.1).1 ?_
        rw [adrs_split h1.2, ← e]
        exact List.mem_map_of_mem hp'
      · exact S.2 p (h2 ▸ hp') (e ▸ .head _)
    · exact Sep.ne_rest n S.tailS h1.2 h2 (by rw [List.length_cons] at hn; exact Nat.ble_eq_true_of_le (Nat.le_of_succ_le_succ (Nat.le_of_ble_eq_true hn))) hq p hp
theorem zrows_le (off : Int) (n : Nat) : (zrows off n).length ≤ 7 := by
  have : n = 0 ∨ n = 1 ∨ n = 2 ∨ n = 3 ∨ n = 4 ∨ 5 ≤ n := by omega
  rcases this with rfl | rfl | rfl | rfl | rfl | h
  · exact Nat.le_of_ble_eq_true rfl
  · exact Nat.le_of_ble_eq_true rfl
  · exact Nat.le_of_ble_eq_true rfl
  · exact Nat.le_of_ble_eq_true rfl
  · exact Nat.le_of_ble_eq_true rfl
  · rw [zrows_many h]; exact Nat.le_of_ble_eq_true rfl
theorem RowsIn.z7 {T : Led} {zs : List Value} {off : Int} {n : Nat} (h : RowsIn T zs (zrows off n)) : zs.length ≤ 7 := by
  rw [h.length]; exact zrows_le _ _
theorem RowsIn.up3 {T : Led} {p1 p2 p3 : Addr × Obj} {zs : List Value} {is : List Ins} (h : RowsIn T zs is) : RowsIn (p1 :: p2 :: p3 :: T) zs is := h.mono fun _ hp => .tail _ (.tail _ (.tail _ hp))
theorem ge_trans {a b : Nat} {Ts : Led} (h : @LE.le Nat _ a b) (hs : ∀ q ∈ Ts, @LE.le Nat _ b q.1) : ∀ q ∈ Ts, @LE.le Nat _ a q.1 := fun q hq => Nat.le_trans h (hs q hq)
theorem Sep.ne {as : List Nat} {Rs : Led} {a b : Nat} (S : Sep as Rs) (i j : Nat) (hi : as[i]? = some a) (hj : as[j]? = some b) (hij : Nat.beq i j = false) : @Ne Nat a b := by
  rintro rfl
  exact Nat.ne_of_beq_eq_false hij ((List.getElem?_inj (List.getElem?_eq_some_iff.mp hi).1 S.1).mp (hi.trans hj.symm))
theorem Sep.ne_in {as : List Nat} {Rs : Led} {q : Nat} (S : Sep as Rs) (hq : q ∈ as) : ∀ p ∈ Rs, @Ne Nat p.1 q := fun p hp e => S.2 p hp (e ▸ hq)
theorem rows_n10b : True := by
  w_top off
  k_with_none
  k_with "setat" => first | exact SetAt.head | (apply SetAt.tail; walk_at "setat")
  k_with "setF" => first | exact SetF.head | (apply SetF.tail; walk_at "setF")
  k_with "upd" => k_dflt (exact upd_sep (by with_reducible assumption) (by walk_at "setat") (by exact rfl) (by exact rfl))
  k_with "updF" => first | k_dflt (exact updF_sep (by with_reducible assumption) (by walk_at "setF") (by exact rfl) (by exact rfl)) | walk_at "updF2"
  k_with "cut" => first | exact Cut.nil | (apply Cut.take; walk_at "cut") | (apply Cut.keep; walk_at "cut")
  k_with "sub" => first | exact Sub.nil | (apply Sub.take; walk_at "sub") | (apply Sub.keep; walk_at "sub")
  k_with "con in" => repeat' (first | exact List.forall_mem_nil _ | refine List.forall_mem_cons.mpr ⟨by k_mem, ?_⟩)
  k_with "execs cons" => (k_here; (try k_made); (try k_gentoks); (refine wpAny_execs_cons (s := Shared.mk _ (Shared.gens s) (Shared.drawn s) _ (Shared.os s)) ?_); (try dsimp only); (try k_fold))
  k_with "con fill" => ((have hfill : PySem.Challenge.rw_pq0756_01 = PySem.Challenge.rw_pq0756_01 ∧ _root_.Mine.hd.heap_39 = _root_.Mine.hd.heap_39 := by (k_fill; exact ⟨rfl, rfl⟩)); clear hfill)
  k_with "con enter" => (refine' enter_def (w := _) (by assumption) (by assumption) (by assumption) (by assumption) (by assumption) (by assumption) (by assumption) (by (simp only [recursionLimit]; omega)) (by k_is) (by k_is) (by first | exact BindsTo.of_eq rfl | (refine' binds_K (by (refine' Frag.In.keeps (by assumption) (by assumption))) (by exact rfl) (by k_is) (by exact rfl) (by exact rfl) (by exact rfl)) | fail "con_enter: no rule for these arguments") (by exact locs rfl) (by exact rfl) ?_ (by exact rfl) (by exact rfl) (by exact rfl) (by decide); k_whole; intro L' h' Q9 E9 F' N' S' hE9 hQ9; (dsimp only [adrs, List.length_cons, List.length_nil] at S'); (try dsimp only))
  k_with "newTuple" => (k_here; (with_reducible rename Sep _ _ => S9); k_dflt (refine' newTuple_S (by k_asm) (by k_asm) S9 (by exact rfl) (by exact rfl) ?_; k_whole); intro l' h' F' N' S' l4; (try clear S9); (try k_sweep))
  k_with "newList" => (k_here; (with_reducible rename Sep _ _ => S9); k_dflt (refine' newList_S (by k_asm) (by k_asm) S9 (by exact rfl) (by exact rfl) ?_; k_whole); intro l' h' F' N' S' l4; (try clear S9); (try k_sweep))
  k_with "call ref" => (k_here; (with_reducible show wpAny _ _ (call (Value.ref _) _ _) _ _ _); (with_reducible rename Sep _ _ => S9); k_dflt (refine' call_clsS (by k_asm) (by k_asm) (by k_asm) S9 (by exact rfl) (by exact rfl) (by k_is) (by k_is) (by k_is) ?_; k_whole; intro x' d' h' F' N' S' l8 l9; (clear S9); (try k_sweep); k_enter))
  k_with "eval Dict nil nil" => (k_here; (with_reducible rename Sep _ _ => S9); k_dflt (refine' newDict_S (by k_asm) (by k_asm) S9 (by exact rfl) (by exact rfl) (TopRead.nolimit (by k_asm)) ?_; k_whole); intro d' h' o' F' N' S' l4 lo' hi' fi'; (try clear S9); (try k_sweep))
  k_with "call type:list" => (k_here; (with_reducible show wpAny _ _ (call (Value.type "list") [Value.ref _]) _ _ _); (with_reducible rename Sep _ _ => S9); k_dflt (refine' list_copyS (by k_asm) (by k_asm) S9 (by exact rfl) (by exact rfl) (by is_list) ?_ (by first | size_fits | ((rw [List.size_toArray, sizeLine_eq]); (simp only [List.length_append, List.length_cons, List.length_nil]); omega)); k_whole); intro D' c' h' F' N' S'; (try clear S9); (try k_sweep))
  k_with "con room" => first | k_dflt (exact Nat.le_of_ble_eq_true rfl) | k_dflt (exact room1 (by with_reducible assumption) rfl) | k_dflt (exact room2 (by with_reducible assumption) rfl) | k_dflt (exact room3 (by with_reducible assumption) rfl) | ((try simp only [depth_under_make, depth_under_kw, depth_in1, depth_deeper, depth_caller, units_in1, units_deeper, units_under_make, Around.mark_units, units_caller]); (try dsimp only); omega) | ((try simp only [Code.weight, Code.frames, Code.isCreation, Code.isGuard, Code.isCaller, Code.cUnits]); (try dsimp only); omega)
  k_with "call builtin:len" => (k_here; (with_reducible show wpAny _ _ (call (Value.builtin "len") [Value.ref _]) _ _ _); k_dflt (refine' kst_len (by k_asm) (by k_mem) rfl (by ((try simp only [List.length_append, List.length_cons, List.length_nil]); omega)) ?_; k_whole))
  trivial
theorem words_n10b1 : True := by
  k_with "dk" => first | assumption | (refine' DictOK.put (by walk_at "dk"))
  k_with "dk get" => first | assumption | exact getL_hit | (refine' getL_miss' (by decide) (by walk_at "dk get")) | (refine' DictOK.isSome (by walk_at "dk"))
  trivial
local macro_rules | `(tactic| k_get) => `(tactic| walk_at "dk get")
theorem words_n10b2 : True := by
  k_with "setAttr ref" => (k_here; k_dflt (refine' set_dict (by k_asm) (by k_asm) (by k_asm) (by k_inst) (by exact rfl) (by k_is) (by k_is) (by k_is) (by k_is) (by (refine' DictOK.isSome (by walk_at "dk"))) (by exact rfl) (by k_upd) (by (refine' DictOK.len (by walk_at "dk") (by omega))) ?_; k_whole; intro h' F' N'; (try k_sweep)))
  k_with "call ref" => (k_here; (with_reducible show wpAny _ _ (call (Value.ref 98) _) _ _ _); (with_reducible rename Sep _ _ => S9); k_dflt (refine' con_use (by k_asm) (by k_asm) (by k_asm) (by k_asm) (by k_asm) S9 (by walk_at "cut") (put_ok _ _ _ _ _ _ _ _ _ _ _ _ _ _ _ (by first | assumption | omega | ((simp only [List.length_append, List.length_cons, List.length_nil]); omega))) (by exact rfl) (by exact rfl) (by walk_at "con room") (by walk_at "con room") (by exact rfl) (by exact rfl) (by exact rfl) (by first | assumption | exact rfl) (by exact fun _ _ _ => True.intro) ?_; k_whole); (intro n' h' tk' XX' F' fr' l4 lf'); (intro a' tk' l5 hX'); (have N' := lf' _ hX'); (clear hX'); (clear lf'); (clear XX'); (have S' := Fresh.one fr' l5); (clear fr'); (replace l5 := Nat.le_trans l4 l5); (dsimp only [List.cons_append, List.nil_append] at N' S'); (try clear S9); (try dsimp only); (try k_sweep))
  trivial
abbrev load_post (w : World) (b bd R x dx ty p ft : Addr) (vs : List Value) (nn nd : Nat) (t : Tok) (ces : List DictEntry) (cn : Nat) (low lowest out : Int) (rg v : Int) (tr tv : Tok) : PostT := fun n G => ∀ (a : Addr) (s1 s2 : Tok), @LE.le Nat _ n a → G ([(a, tupOf [.str (Str.ofString "MOVI") s1, .int rg tr, .int 0 s2, .int v tv]), (b, instObj 143 bd), (bd, dictOf [ent w "rows" t (.ref R)] nd), (R, listOf (vs ++ [Value.ref a]).toArray (nn + 1)), (x, instObj 379 dx), (dx, dictOf ces cn)]) (.none)
set_option maxHeartbeats 16000000 in
theorem load_ok (w : World) (mean : ExcName → Option Value) (mg mb : Str → Option Value) (b bd R x dx ty p ft : Addr) (vs : List Value) (nn nd : Nat) (t : Tok) (ces : List DictEntry) (cn : Nat) (low lowest out : Int) (rg v : Int) (tr tv : Tok) (C : CoderD ces ty b p ft low lowest out) (hz : vs.length ≤ 990) (hv0 : 0 ≤ v) (hv1 : v ≤ 900) :
    Con w mean mg mb 800 56 [.ref x, .int rg tr, .int v tv] (fun _ => True) [(b, instObj 143 bd), (bd, dictOf [ent w "rows" t (.ref R)] nd), (R, listOf (vs).toArray nn), (x, instObj 379 dx), (dx, dictOf ces cn)] (load_post w b bd R x dx ty p ft vs nn nd t ces cn low lowest out rg v tr tv) := by
  have D1 := C.ok
  have M1 := C.m1
  have M2 := C.m2
  have M3 := C.m3
  have M4 := C.m4
  have M5 := C.m5
  have M6 := C.m6
  have D2 := C.types
  have D3 := C.buf
  have D4 := C.pool
  walk_at "con fill"
  intro dp un gd frames base g s RR B X T hd hu hp hsz hk hA hn ret
  walk_at "con enter"
  k_steps
  (try dsimp only)
  rename Fr _ _ _ _ => F9
  rename News _ _ _ _ => N9
  exact hQ9 _ _ (ret _ _ F9.keep _ _ _ (by assumption) (news_ends N9))
theorem rows_n11 : True := by
  w_top off
  k_with_none
  k_with "setat" => first | exact SetAt.head | (apply SetAt.tail; walk_at "setat")
  k_with "setF" => first | exact SetF.head | (apply SetF.tail; walk_at "setF")
  k_with "upd" => k_dflt (exact upd_sep (by with_reducible assumption) (by walk_at "setat") (by exact rfl) (by exact rfl))
  k_with "updF" => first | k_dflt (exact updF_sep (by with_reducible assumption) (by walk_at "setF") (by exact rfl) (by exact rfl)) | walk_at "updF2"
  k_with "cut" => first | exact Cut.nil | (apply Cut.take; walk_at "cut") | (apply Cut.keep; walk_at "cut")
  k_with "sub" => first | exact Sub.nil | (apply Sub.take; walk_at "sub") | (apply Sub.keep; walk_at "sub")
  k_with "con in" => repeat' (first | exact List.forall_mem_nil _ | refine List.forall_mem_cons.mpr ⟨by k_mem, ?_⟩)
  k_with "execs cons" => (k_here; (try k_made); (try k_gentoks); (refine wpAny_execs_cons (s := Shared.mk _ (Shared.gens s) (Shared.drawn s) _ (Shared.os s)) ?_); (try dsimp only); (try k_fold))
  k_with "con fill" => ((have hfill : PySem.Challenge.rw_pq0756_01 = PySem.Challenge.rw_pq0756_01 ∧ _root_.Mine.hd.heap_39 = _root_.Mine.hd.heap_39 := by (k_fill; exact ⟨rfl, rfl⟩)); clear hfill)
  k_with "con enter" => (refine' enter_def (w := _) (by assumption) (by assumption) (by assumption) (by assumption) (by assumption) (by assumption) (by assumption) (by (simp only [recursionLimit]; omega)) (by k_is) (by k_is) (by first | exact BindsTo.of_eq rfl | (refine' binds_K (by (refine' Frag.In.keeps (by assumption) (by assumption))) (by exact rfl) (by k_is) (by exact rfl) (by exact rfl) (by exact rfl)) | fail "con_enter: no rule for these arguments") (by exact locs rfl) (by exact rfl) ?_ (by exact rfl) (by exact rfl) (by exact rfl) (by decide); k_whole; intro L' h' Q9 E9 F' N' S' hE9 hQ9; (dsimp only [adrs, List.length_cons, List.length_nil] at S'); (try dsimp only))
  k_with "newTuple" => (k_here; (with_reducible rename Sep _ _ => S9); k_dflt (refine' newTuple_S (by k_asm) (by k_asm) S9 (by exact rfl) (by exact rfl) ?_; k_whole); intro l' h' F' N' S' l4; (try clear S9); (try k_sweep))
  k_with "newList" => (k_here; (with_reducible rename Sep _ _ => S9); k_dflt (refine' newList_S (by k_asm) (by k_asm) S9 (by exact rfl) (by exact rfl) ?_; k_whole); intro l' h' F' N' S' l4; (try clear S9); (try k_sweep))
  k_with "call ref" => (k_here; (with_reducible show wpAny _ _ (call (Value.ref _) _ _) _ _ _); (with_reducible rename Sep _ _ => S9); k_dflt (refine' call_clsS (by k_asm) (by k_asm) (by k_asm) S9 (by exact rfl) (by exact rfl) (by k_is) (by k_is) (by k_is) ?_; k_whole; intro x' d' h' F' N' S' l8 l9; (clear S9); (try k_sweep); k_enter))
  k_with "eval Dict nil nil" => (k_here; (with_reducible rename Sep _ _ => S9); k_dflt (refine' newDict_S (by k_asm) (by k_asm) S9 (by exact rfl) (by exact rfl) (TopRead.nolimit (by k_asm)) ?_; k_whole); intro d' h' o' F' N' S' l4 lo' hi' fi'; (try clear S9); (try k_sweep))
  k_with "call type:list" => (k_here; (with_reducible show wpAny _ _ (call (Value.type "list") [Value.ref _]) _ _ _); (with_reducible rename Sep _ _ => S9); k_dflt (refine' list_copyS (by k_asm) (by k_asm) S9 (by exact rfl) (by exact rfl) (by is_list) ?_ (by first | size_fits | ((rw [List.size_toArray, sizeLine_eq]); (simp only [List.length_append, List.length_cons, List.length_nil]); omega)); k_whole); intro D' c' h' F' N' S'; (try clear S9); (try k_sweep))
  k_with "con room" => first | k_dflt (exact Nat.le_of_ble_eq_true rfl) | k_dflt (exact room1 (by with_reducible assumption) rfl) | k_dflt (exact room2 (by with_reducible assumption) rfl) | k_dflt (exact room3 (by with_reducible assumption) rfl) | ((try simp only [depth_under_make, depth_under_kw, depth_in1, depth_deeper, depth_caller, units_in1, units_deeper, units_under_make, Around.mark_units, units_caller]); (try dsimp only); omega) | ((try simp only [Code.weight, Code.frames, Code.isCreation, Code.isGuard, Code.isCaller, Code.cUnits]); (try dsimp only); omega)
  k_with "call builtin:len" => (k_here; (with_reducible show wpAny _ _ (call (Value.builtin "len") [Value.ref _]) _ _ _); k_dflt (refine' kst_len (by k_asm) (by k_mem) rfl (by ((try simp only [List.length_append, List.length_cons, List.length_nil]); omega)) ?_; k_whole))
  trivial
theorem words_n111 : True := by
  k_with "ins" => first | exact ins_str (by omega) | exact ins_movi (by omega) | exact ins_addi (by omega) | exact ins_subi (by omega) | exact ins_bne (by omega) | exact ins_bne (by (simp only [List.length_append, List.length_cons, List.length_nil]; omega)) | exact ins_ldr (by omega) | exact ins_mov | exact ins_br
  k_with "dk" => first | assumption | (refine' DictOK.put (by walk_at "dk"))
  k_with "dk get" => first | assumption | exact getL_hit | (refine' getL_miss' (by decide) (by walk_at "dk get")) | (refine' DictOK.isSome (by walk_at "dk"))
  trivial
local macro_rules | `(tactic| k_get) => `(tactic| walk_at "dk get")
theorem words_n112 : True := by
  k_with "setAttr ref" => (k_here; k_dflt (refine' set_dict (by k_asm) (by k_asm) (by k_asm) (by k_inst) (by exact rfl) (by k_is) (by k_is) (by k_is) (by k_is) (by (refine' DictOK.isSome (by walk_at "dk"))) (by exact rfl) (by k_upd) (by (refine' DictOK.len (by walk_at "dk") (by omega))) ?_; k_whole; intro h' F' N'; (try k_sweep)))
  k_with "call ref" => (k_here; (with_reducible show wpAny _ _ (call (Value.ref 98) _) _ _ _); (with_reducible rename Sep _ _ => S9); k_dflt (refine' con_use (by k_asm) (by k_asm) (by k_asm) (by k_asm) (by k_asm) S9 (by walk_at "cut") (put_ok _ _ _ _ _ _ _ _ _ _ _ _ _ _ _ (by first | assumption | omega | ((simp only [List.length_append, List.length_cons, List.length_nil]); omega))) (by exact rfl) (by exact rfl) (by walk_at "con room") (by walk_at "con room") (by exact rfl) (by exact rfl) (by exact rfl) (by first | assumption | exact rfl) (by exact fun _ _ _ => True.intro) ?_; k_whole); (intro n' h' tk' XX' F' fr' l4 lf'); (intro a' tk' l5 hX'); (have N' := lf' _ hX'); (clear hX'); (clear lf'); (clear XX'); (have S' := Fresh.one fr' l5); (clear fr'); (replace l5 := Nat.le_trans l4 l5); (dsimp only [List.cons_append, List.nil_append] at N' S'); (try clear S9); (try dsimp only); (try k_sweep))
  k_with "call ref" => (k_here; (with_reducible show wpAny _ _ (call (Value.ref 133) _) _ _ _); (with_reducible rename Sep _ _ => S9); k_dflt (refine' con_use (by k_asm) (by k_asm) (by k_asm) (by k_asm) (by k_asm) S9 (by walk_at "cut") (back_ok _ _ _ _ _ _ _ _ _ _ _ _ _ _ (by first | assumption | omega | ((simp only [List.length_append, List.length_cons, List.length_nil]); omega))) (by exact rfl) (by exact rfl) (by walk_at "con room") (by walk_at "con room") (by exact rfl) (by exact rfl) (by exact rfl) (by first | assumption | exact rfl) (by exact fun _ _ _ => True.intro) ?_; k_whole); (intro n' h' tk' XX' F' fr' l4 lf'); (intro a' tk' t1' t2' t3' l5 hX'); (have N' := lf' _ hX'); (clear hX'); (clear lf'); (clear XX'); (have S' := Fresh.one fr' l5); (clear fr'); (replace l5 := Nat.le_trans l4 l5); (dsimp only [List.cons_append, List.nil_append] at N' S'); (try clear S9); (try dsimp only); (try k_sweep))
  k_with "call ref" => (k_here; (with_reducible show wpAny _ _ (call (Value.ref 105) _) _ _ _); (with_reducible rename Sep _ _ => S9); k_dflt (refine' con_use (by k_asm) (by k_asm) (by k_asm) (by k_asm) (by k_asm) S9 (by walk_at "cut") (here_ok _ _ _ _ _ _ _ _ _ _ _ (by first | assumption | omega | ((simp only [List.length_append, List.length_cons, List.length_nil]); omega))) (by exact rfl) (by exact rfl) (by walk_at "con room") (by walk_at "con room") (by exact rfl) (by exact rfl) (by exact rfl) (by first | assumption | exact rfl) (by exact fun _ _ _ => True.intro) ?_; k_whole); (intro n' h' tk' XX' F' fr' l4 lf'); (intro tk' hX'); (have N' := lf' _ hX'); (clear hX'); (clear lf'); (clear XX'); (have S' := Fresh.none fr'); (clear fr'); (dsimp only [List.cons_append, List.nil_append] at N' S'); (try clear S9); (try dsimp only); (try k_sweep))
  k_with "call ref" => (k_here; (with_reducible show wpAny _ _ (call (Value.ref 38) _) _ _ _); (with_reducible rename Sep _ _ => S9); k_dflt (refine' call_clsS (by k_asm) (by k_asm) (by k_asm) S9 (by exact rfl) (by exact rfl) (by k_is) (by k_is) (by k_is) ?_; k_whole); (intro x' d' h' F' N' S' l8 l9); (clear S9); (try k_sweep); (with_reducible rename Sep _ _ => S9); k_dflt (refine' con_useC (by k_asm) (by k_asm) (by k_asm) (by k_asm) (by k_asm) S9 (by walk_at "cut") (item_ok _ _ _ _ _ _ _ _) (by exact rfl) (by exact rfl) (by walk_at "con room") (by walk_at "con room") (by exact rfl) (by exact rfl) (by exact rfl) (by first | assumption | exact rfl) (by exact fun _ _ _ => True.intro) ?_; k_whole); (intro n' h' tk' XX' F' fr' l4 lf'); (intro es' k' hi hX'); (have N' := lf' _ hX'); (clear hX'); (clear lf'); (clear XX'); (have S' := Fresh.none fr'); (clear fr'); (dsimp only [List.cons_append, List.nil_append] at N' S'); (try clear S9); (try dsimp only [InitBack]); (try refine ⟨rfl, ?_⟩); (try dsimp only); (try k_sweep))
  k_with "call ref" => (k_here; (with_reducible show wpAny _ _ (call (Value.ref 215) _) _ _ _); (with_reducible rename Sep _ _ => S9); k_dflt (refine' con_use (by k_asm) (by k_asm) (by k_asm) (by k_asm) (by k_asm) S9 (by walk_at "cut") (take_ok _ _ _ _ _ _ _ _ _ _ _ _ _ _ _ _ _ _ _ _ _ (by assumption) (by omega) (by omega) (by assumption) (by assumption) (by assumption)) (by exact rfl) (by exact rfl) (by walk_at "con room") (by walk_at "con room") (by exact rfl) (by exact rfl) (by exact rfl) (by first | assumption | exact rfl) (by exact fun _ _ _ => True.intro) ?_; k_whole); (intro n' h' tk' XX' F' fr' l4 lf'); (intro o'' es'' m'' t' t''' c'' hd hi hg hX'); (have N' := lf' _ hX'); (clear hX'); (clear lf'); (clear XX'); (have S' := Fresh.none fr'); (clear fr'); (dsimp only [List.cons_append, List.nil_append] at N' S'); (try clear S9); (try dsimp only); (try k_sweep))
  k_with "call ref" => (k_here; (with_reducible show wpAny _ _ (call (Value.ref 327) _) _ _ _); (with_reducible rename Sep _ _ => S9); k_dflt (refine' con_use (by k_asm) (by k_asm) (by k_asm) (by k_asm) (by k_asm) S9 (by walk_at "cut") (release_ok _ _ _ _ _ _ _ _ _ _ _ _ _ _ _ _ _ _ _ _ _ _ _ _ _ _ _ _ _ _ _ _ (by assumption) (by assumption) (by assumption) (by assumption) (by assumption)) (by exact rfl) (by exact rfl) (by walk_at "con room") (by walk_at "con room") (by exact rfl) (by exact rfl) (by exact rfl) (by first | assumption | exact rfl) (by exact fun _ _ _ => True.intro) ?_; k_whole); (intro n' h' tk' XX' F' fr' l4 lf'); (intro o'' c'' es'' m'' hX'); (have N' := lf' _ hX'); (clear hX'); (clear lf'); (clear XX'); (have S' := Fresh.none fr'); (clear fr'); (dsimp only [List.cons_append, List.nil_append] at N' S'); (try clear S9); (try dsimp only); (try k_sweep))
  k_with "call ref" => (k_here; (with_reducible show wpAny _ _ (call (Value.ref 56) _) _ _ _); (with_reducible rename Sep _ _ => S9); k_dflt (refine' con_use (by k_asm) (by k_asm) (by k_asm) (by k_asm) (by k_asm) S9 (by walk_at "cut") (load_ok _ _ _ _ _ _ _ _ _ _ _ _ _ _ _ _ _ _ _ _ _ _ _ _ _ (by assumption) (by first | assumption | omega | ((simp only [List.length_append, List.length_cons, List.length_nil]); omega)) (by omega) (by omega)) (by exact rfl) (by exact rfl) (by walk_at "con room") (by walk_at "con room") (by exact rfl) (by exact rfl) (by exact rfl) (by first | assumption | exact rfl) (by exact fun _ _ _ => True.intro) ?_; k_whole); (intro n' h' tk' XX' F' fr' l4 lf'); (intro a' s1' s2' l5 hX'); (have N' := lf' _ hX'); (clear hX'); (clear lf'); (clear XX'); (have S' := Fresh.one fr' l5); (clear fr'); (replace l5 := Nat.le_trans l4 l5); (dsimp only [List.cons_append, List.nil_append] at N' S'); (try clear S9); (try dsimp only); (try k_sweep))
  k_with "pyIter ref" => (k_here; (rename Fr _ _ _ _ => lF'); (rename News _ _ _ _ => lN'); (rename IsRange _ _ _ _ _ _ _ _ => rgX); with_unfolding_all (refine' range_unr (n := nw) (zJ w b bd R nd t (vs ++ [Value.ref a']) a' [(x, instObj 379 dx), (dx, dictOf ces cn), (p, instObj 237 pd), (pd, dictOf [ent w "count" t1 (.int k tc), ent w "owner" t2 (.ref ow), ent w "order" t3 (.ref od), ent w "spiller" t4 v] 4), (ow, oo), (od, listOf #[] oc), (ty, instObj 436 tdx), (tdx, dictOf tes tn)] [x, dx, p, pd, ow, od, ty, tdx] off g.objs.size nw _) (by rfl) rgX (by exact small_nat hnw) (by exact size_nat) lF' lN' (by (intro I9 l9; (with_reducible rename Sep _ _ => S7); exact ⟨[], [], nn + 1, _, (by rw [List.append_nil, List.append_nil]), (by walk_at "ins"), (by omega), .nil, (by exact Sep.push S7 l9 rfl rfl), (fun _ h => nomatch h), fun _ _ => rfl⟩)) (fun I9 k9 i9 m9 nx9 hJ9 t9 h9 tk9 F9' N9' => ?_) (fun I9 i9 m9 nx9 hJ9 h9 tk9 F9' N9' => ?_)); (all_goals ((with_reducible rename Sep _ _ => S9); clear S9 lF' lN')); (all_goals (obtain ⟨zs9, Ts9, nn9, ws9, rfl, hi9, hik9, hR9, S8', hle9, hm9⟩ := hJ9)); (all_goals (have hzl9 := zs_len hR9)); (all_goals (try rw [off_same hm9] at F9')); (all_goals (dsimp only [List.cons_append, List.nil_append] at N9')))
  k_with "exec For Name Call cons nil" => (k_here; (rename Fr _ _ _ _ => lF'); (with_unfolding_all refine' For_invVF lF' (by exact rfl) (by exact rfl) ?_ (by (intro _; exact rfl)) (by first | assumption | passes_own); k_whole))
  k_with "call type:range" => (k_here; (rename Fr _ _ _ _ => F8); (rename News _ _ _ _ => N8); (with_unfolding_all refine' range1_rows F8 N8 ?_); intro h' tk' t1' u1' v1' rg' F' N' kp'; (clear F8 N8); (clear kp'))
  k_with "UnrEnd" => (with_unfolding_all exact z_end (by assumption) (by assumption) (by with_reducible assumption) rfl rfl hR9 hi9 (by walk_at "ins") (by assumption) hle9 hik9 (fun z9 h9 => if_neg h9))
  trivial
abbrev zero_post (w : World) (b bd R x dx p pd ow od ty tdx ft : Addr) (vs : List Value) (nn : Nat) (nd : Nat) (t : Tok) (ces : List DictEntry) (cn : Nat) (t1 t2 t3 t4 tc : Tok) (k : Int) (v : Value) (oo : Obj) (oc : Nat) (tes : List DictEntry) (tn : Nat) (off m : Int) (nw : Nat) (tb to tw : Tok) (low lowest out : Int) (vi : Addr) : PostT := fun n G => ∀ (Ts : Led) (zs : List Value) (nn' : Nat) (oo' : Obj) (oc' : Nat), RowsIn Ts zs (zrows off nw) → (∀ q ∈ Ts, @LE.le Nat _ n q.1) → G ([(b, instObj 143 bd), (bd, dictOf [ent w "rows" t (.ref R)] nd), (R, listOf (vs ++ zs).toArray nn'), (x, instObj 379 dx), (dx, dictOf ces cn), (p, instObj 237 pd), (pd, dictOf [ent w "count" t1 (.int k tc), ent w "owner" t2 (.ref ow), ent w "order" t3 (.ref od), ent w "spiller" t4 v] 4), (ow, oo'), (od, listOf #[] oc'), (ty, instObj 436 tdx), (tdx, dictOf tes tn)] ++ Ts) (.none)
set_option maxHeartbeats 16000000 in
theorem zero_ok (w : World) (mean : ExcName → Option Value) (mg mb : Str → Option Value) (b bd R x dx p pd ow od ty tdx ft : Addr) (vs : List Value) (nn : Nat) (nd : Nat) (t : Tok) (ces : List DictEntry) (cn : Nat) (t1 t2 t3 t4 tc : Tok) (k : Int) (v : Value) (oo : Obj) (oc : Nat) (tes : List DictEntry) (tn : Nat) (off m : Int) (nw : Nat) (tb to tw : Tok) (low lowest out : Int) (vi : Addr) (C : CoderD ces ty b p ft low lowest out) (hty : getL (Str.ofString "integer") tes = some (some (.ref vi))) (tok : DictOK 40 tes) (hk1 : 4 ≤ k) (hk2 : k ≤ 10) (hdo : oo.IsDictOf (PySem.intKind PG w) []) (hfo : PyProof.V.FlatPairs PyData.int [] []) (hlo : (ow == sysModules) = false) (hz : vs.length ≤ 900) (hm : m = nw) (hnw : nw ≤ 9) :
    Con w mean mg mb 650 63 [.ref x, .int 11 tb, .int off to, .int m tw] (fun _ => True) [(b, instObj 143 bd), (bd, dictOf [ent w "rows" t (.ref R)] nd), (R, listOf (vs).toArray nn), (x, instObj 379 dx), (dx, dictOf ces cn), (p, instObj 237 pd), (pd, dictOf [ent w "count" t1 (.int k tc), ent w "owner" t2 (.ref ow), ent w "order" t3 (.ref od), ent w "spiller" t4 v] 4), (ow, oo), (od, listOf #[] oc), (ty, instObj 436 tdx), (tdx, dictOf tes tn)] (zero_post w b bd R x dx p pd ow od ty tdx ft vs nn nd t ces cn t1 t2 t3 t4 tc k v oo oc tes tn off m nw tb to tw low lowest out vi) := by
  subst hm
  have D1 := C.ok
  have M1 := C.m1
  have M2 := C.m2
  have M3 := C.m3
  have M4 := C.m4
  have M5 := C.m5
  have M6 := C.m6
  have D2 := C.types
  have D3 := C.buf
  have D4 := C.pool
  walk_at "con fill"
  intro dp un gd frames base g s RR B X T hd hu hp hsz hk hA hn ret
  walk_at "con enter"
  k_steps
  all_goals (try dsimp only)
  all_goals rename Fr _ _ _ _ => F9
  all_goals rename News _ _ _ _ => N9
  · obtain rfl : nw = 0 := by omega
    exact hQ9 _ _ (ret _ _ F9.keep [] [] nn oo oc .nil (fun _ h => nomatch h) (by rw [List.append_nil, List.append_nil]; exact news_ends N9))
  · obtain rfl : i9 = nw := by omega
    rw [List.append_assoc] at N9
    exact hQ9 _ _ (ret _ _ F9.keep ((a', tupOf ws9) :: Ts9) (.ref a' :: zs9) nn9 oo oc (RowsIn.few (by omega) (by omega) hi9 hR9) (ge_cons (by assumption) hle9) (news_ends (News.snoc N9)))
  · simp only [List.append_assoc, List.cons_append, List.nil_append] at N9
    refine' hQ9 _ _ (ret _ _ F9.keep [(_, tupOf _), (_, tupOf _), (_, tupOf _), (_, tupOf _), (_, tupOf _), (_, tupOf _), (_, tupOf _)] _ _ _ _ ?rows ?le (news_ends (News.pick N9 (List.forall_mem_append.mpr ⟨?m1, ?m2⟩))))
    case m1 => walk_at "con in"
    case' rows => rw [zrows_many (by omega)]; refine' .cons (by k_mem) ?i1 (.cons (by k_mem) ?i2 (.cons (by k_mem) ?i3 (.cons (by k_mem) ?i4 (.cons (by k_mem) ?i5 (.cons (by k_mem) ?i6 (.cons (by k_mem) ?i7 .nil))))))
    case m2 => walk_at "con in"
    case le => (repeat' (first | exact List.forall_mem_nil _ | refine List.forall_mem_cons.mpr ⟨?_, ?_⟩)) <;> assumption
    all_goals walk_at "ins"
theorem rows_n12 : True := by
  w_top off
  k_with_none
  k_with "setat" => first | exact SetAt.head | (apply SetAt.tail; walk_at "setat")
  k_with "setF" => first | exact SetF.head | (apply SetF.tail; walk_at "setF")
  k_with "upd" => k_dflt (exact upd_sep (by with_reducible assumption) (by walk_at "setat") (by exact rfl) (by exact rfl))
  k_with "updF" => first | k_dflt (exact updF_sep (by with_reducible assumption) (by walk_at "setF") (by exact rfl) (by exact rfl)) | walk_at "updF2"
  k_with "cut" => first | exact Cut.nil | (apply Cut.take; walk_at "cut") | (apply Cut.keep; walk_at "cut")
  k_with "sub" => first | exact Sub.nil | (apply Sub.take; walk_at "sub") | (apply Sub.keep; walk_at "sub")
  k_with "con in" => repeat' (first | exact List.forall_mem_nil _ | refine List.forall_mem_cons.mpr ⟨by k_mem, ?_⟩)
  k_with "execs cons" => (k_here; (try k_made); (try k_gentoks); (refine wpAny_execs_cons (s := Shared.mk _ (Shared.gens s) (Shared.drawn s) _ (Shared.os s)) ?_); (try dsimp only); (try k_fold))
  k_with "con fill" => ((have hfill : PySem.Challenge.rw_pq0756_01 = PySem.Challenge.rw_pq0756_01 ∧ _root_.Mine.hd.heap_39 = _root_.Mine.hd.heap_39 := by (k_fill; exact ⟨rfl, rfl⟩)); clear hfill)
  k_with "con enter" => (refine' enter_def (w := _) (by assumption) (by assumption) (by assumption) (by assumption) (by assumption) (by assumption) (by assumption) (by (simp only [recursionLimit]; omega)) (by k_is) (by k_is) (by first | exact BindsTo.of_eq rfl | (refine' binds_K (by (refine' Frag.In.keeps (by assumption) (by assumption))) (by exact rfl) (by k_is) (by exact rfl) (by exact rfl) (by exact rfl)) | fail "con_enter: no rule for these arguments") (by exact locs rfl) (by exact rfl) ?_ (by exact rfl) (by exact rfl) (by exact rfl) (by decide); k_whole; intro L' h' Q9 E9 F' N' S' hE9 hQ9; (dsimp only [adrs, List.length_cons, List.length_nil] at S'); (try dsimp only))
  k_with "newTuple" => (k_here; (with_reducible rename Sep _ _ => S9); k_dflt (refine' newTuple_S (by k_asm) (by k_asm) S9 (by exact rfl) (by exact rfl) ?_; k_whole); intro l' h' F' N' S' l4; (try clear S9); (try k_sweep))
  k_with "newList" => (k_here; (with_reducible rename Sep _ _ => S9); k_dflt (refine' newList_S (by k_asm) (by k_asm) S9 (by exact rfl) (by exact rfl) ?_; k_whole); intro l' h' F' N' S' l4; (try clear S9); (try k_sweep))
  k_with "call ref" => (k_here; (with_reducible show wpAny _ _ (call (Value.ref _) _ _) _ _ _); (with_reducible rename Sep _ _ => S9); k_dflt (refine' call_clsS (by k_asm) (by k_asm) (by k_asm) S9 (by exact rfl) (by exact rfl) (by k_is) (by k_is) (by k_is) ?_; k_whole; intro x' d' h' F' N' S' l8 l9; (clear S9); (try k_sweep); k_enter))
  k_with "eval Dict nil nil" => (k_here; (with_reducible rename Sep _ _ => S9); k_dflt (refine' newDict_S (by k_asm) (by k_asm) S9 (by exact rfl) (by exact rfl) (TopRead.nolimit (by k_asm)) ?_; k_whole); intro d' h' o' F' N' S' l4 lo' hi' fi'; (try clear S9); (try k_sweep))
  k_with "call type:list" => (k_here; (with_reducible show wpAny _ _ (call (Value.type "list") [Value.ref _]) _ _ _); (with_reducible rename Sep _ _ => S9); k_dflt (refine' list_copyS (by k_asm) (by k_asm) S9 (by exact rfl) (by exact rfl) (by is_list) ?_ (by first | size_fits | ((rw [List.size_toArray, sizeLine_eq]); (simp only [List.length_append, List.length_cons, List.length_nil]); omega)); k_whole); intro D' c' h' F' N' S'; (try clear S9); (try k_sweep))
  k_with "con room" => first | k_dflt (exact Nat.le_of_ble_eq_true rfl) | k_dflt (exact room1 (by with_reducible assumption) rfl) | k_dflt (exact room2 (by with_reducible assumption) rfl) | k_dflt (exact room3 (by with_reducible assumption) rfl) | ((try simp only [depth_under_make, depth_under_kw, depth_in1, depth_deeper, depth_caller, units_in1, units_deeper, units_under_make, Around.mark_units, units_caller]); (try dsimp only); omega) | ((try simp only [Code.weight, Code.frames, Code.isCreation, Code.isGuard, Code.isCaller, Code.cUnits]); (try dsimp only); omega)
  k_with "call builtin:len" => (k_here; (with_reducible show wpAny _ _ (call (Value.builtin "len") [Value.ref _]) _ _ _); k_dflt (refine' kst_len (by k_asm) (by k_mem) rfl (by ((try simp only [List.length_append, List.length_cons, List.length_nil]); omega)) ?_; k_whole))
  trivial
theorem words_n121 : True := by
  k_with "ins" => first | exact ins_str (by omega) | exact ins_movi (by omega) | exact ins_addi (by omega) | exact ins_subi (by omega) | exact ins_bne (by omega) | exact ins_bne (by (simp only [List.length_append, List.length_cons, List.length_nil]; omega)) | exact ins_ldr (by omega) | exact ins_mov | exact ins_br
  k_with "dk" => first | assumption | (refine' DictOK.put (by walk_at "dk"))
  k_with "dk get" => first | assumption | exact getL_hit | (refine' getL_miss' (by decide) (by walk_at "dk get")) | (refine' DictOK.isSome (by walk_at "dk"))
  trivial
local macro_rules | `(tactic| k_get) => `(tactic| walk_at "dk get")
theorem words_n122 : True := by
  k_with "setAttr ref" => (k_here; k_dflt (refine' set_dict (by k_asm) (by k_asm) (by k_asm) (by k_inst) (by exact rfl) (by k_is) (by k_is) (by k_is) (by k_is) (by (refine' DictOK.isSome (by walk_at "dk"))) (by exact rfl) (by k_upd) (by (refine' DictOK.len (by walk_at "dk") (by omega))) ?_; k_whole; intro h' F' N'; (try k_sweep)))
  k_with "call ref" => (k_here; (with_reducible show wpAny _ _ (call (Value.ref 98) _) _ _ _); (with_reducible rename Sep _ _ => S9); k_dflt (refine' con_use (by k_asm) (by k_asm) (by k_asm) (by k_asm) (by k_asm) S9 (by walk_at "cut") (put_ok _ _ _ _ _ _ _ _ _ _ _ _ _ _ _ (by first | assumption | omega | ((simp only [List.length_append, List.length_cons, List.length_nil]); omega))) (by exact rfl) (by exact rfl) (by walk_at "con room") (by walk_at "con room") (by exact rfl) (by exact rfl) (by exact rfl) (by first | assumption | exact rfl) (by exact fun _ _ _ => True.intro) ?_; k_whole); (intro n' h' tk' XX' F' fr' l4 lf'); (intro a' tk' l5 hX'); (have N' := lf' _ hX'); (clear hX'); (clear lf'); (clear XX'); (have S' := Fresh.one fr' l5); (clear fr'); (replace l5 := Nat.le_trans l4 l5); (dsimp only [List.cons_append, List.nil_append] at N' S'); (try clear S9); (try dsimp only); (try k_sweep))
  k_with "call ref" => (k_here; (with_reducible show wpAny _ _ (call (Value.ref 63) _) _ _ _); (with_reducible rename Sep _ _ => S9); k_dflt (refine' con_use (by k_asm) (by k_asm) (by k_asm) (by k_asm) (by k_asm) S9 (by walk_at "cut") (zero_ok _ _ _ _ _ _ _ _ _ _ _ _ _ _ _ _ _ _ _ _ _ _ _ _ _ _ _ _ _ _ _ _ _ _ _ _ _ _ _ _ _ _ _ (by assumption) (by assumption) (by assumption) (by assumption) (by assumption) (by assumption) (by assumption) (by assumption) (by first | assumption | omega | ((simp only [List.length_append, List.length_cons, List.length_nil]); omega)) (by assumption) (by omega)) (by exact rfl) (by exact rfl) (by walk_at "con room") (by walk_at "con room") (by exact rfl) (by exact rfl) (by exact rfl) (by first | assumption | exact rfl) (by exact fun _ _ _ => True.intro) ?_; k_whole); (intro n' h' tk' XX' F' fr' l4 lf'); (intro Ts' zs' nn'' oo'' oc'' hrz hle hX'); (have N' := News.tl0 (lf' _ hX')); (clear hX'); (clear lf'); (clear XX'); (have S' := Fresh.tail0 fr' hle); (replace hle := ge_trans l4 hle); (clear fr'); (dsimp only [List.cons_append, List.nil_append] at N' S'); (try clear S9); (try dsimp only); (try k_sweep))
  trivial
abbrev begin_post (w : World) (x dx b bd R p pd ow od ty tdx ft : Addr) (nd : Nat) (t : Tok) (ces : List DictEntry) (cn : Nat) (t1 t2 t3 t4 tc : Tok) (k : Int) (v : Value) (oo : Obj) (oc : Nat) (tes : List DictEntry) (tn : Nat) (q : Int) (tl : Tok) (low lowest out : Int) (vi : Addr) : PostT := fun n G => ∀ (Ts : Led) (zs : List Value) (a0 a1 a2 qa : Addr) (s1 s2 s3 s4 tr : Tok) (nn' : Nat) (oo' : Obj) (oc' : Nat), RowsIn Ts [.ref a0, .ref a1, .ref a2] [.str 15 14 (-4), .str 11 14 (-8), .mov 11 14] → RowsIn Ts zs (zrows (0 - 8 - 4 * q) q.toNat) → (∀ p ∈ Ts, @LE.le Nat _ n p.1) → @LE.le Nat _ n qa → (∀ p ∈ Ts, @Ne Nat p.1 qa) → G (((qa, tupOf [.str (Str.ofString "SUBI") s1, .int 14 s2, .int 14 s3, .int 0 s4]) :: [(x, instObj 379 dx), (dx, dictOf ces cn), (b, instObj 143 bd), (bd, dictOf [ent w "rows" t (.ref R)] nd), (R, listOf (.ref a0 :: .ref a1 :: .ref a2 :: .ref qa :: zs).toArray nn'), (p, instObj 237 pd), (pd, dictOf [ent w "count" t1 (.int k tc), ent w "owner" t2 (.ref ow), ent w "order" t3 (.ref od), ent w "spiller" t4 v] 4), (ow, oo'), (od, listOf #[] oc'), (ty, instObj 436 tdx), (tdx, dictOf tes tn)]) ++ Ts) (.int 3 tr)
set_option maxHeartbeats 16000000 in
theorem begin_ok (w : World) (mean : ExcName → Option Value) (mg mb : Str → Option Value) (x dx b bd R p pd ow od ty tdx ft : Addr) (nd : Nat) (t : Tok) (ces : List DictEntry) (cn : Nat) (t1 t2 t3 t4 tc : Tok) (k : Int) (v : Value) (oo : Obj) (oc : Nat) (tes : List DictEntry) (tn : Nat) (q : Int) (tl : Tok) (low lowest out : Int) (vi : Addr) (C : CoderD ces ty b p ft low lowest out) (hty : getL (Str.ofString "integer") tes = some (some (.ref vi))) (tok : DictOK 40 tes) (hk1 : 4 ≤ k) (hk2 : k ≤ 10) (hdo : oo.IsDictOf (PySem.intKind PG w) []) (hfo : PyProof.V.FlatPairs PyData.int [] []) (hlo : (ow == sysModules) = false) (h0 : 0 ≤ q) (h9 : q ≤ 9) :
    Con w mean mg mb 600 70 [.ref x, .int (4 * q) tl] (fun _ => True) [(x, instObj 379 dx), (dx, dictOf ces cn), (b, instObj 143 bd), (bd, dictOf [ent w "rows" t (.ref R)] nd), (R, listOf #[] 0), (p, instObj 237 pd), (pd, dictOf [ent w "count" t1 (.int k tc), ent w "owner" t2 (.ref ow), ent w "order" t3 (.ref od), ent w "spiller" t4 v] 4), (ow, oo), (od, listOf #[] oc), (ty, instObj 436 tdx), (tdx, dictOf tes tn)] (begin_post w x dx b bd R p pd ow od ty tdx ft nd t ces cn t1 t2 t3 t4 tc k v oo oc tes tn q tl low lowest out vi) := by
  obtain ⟨nw, rfl⟩ := Int.eq_ofNat_of_zero_le h0
  have hfd : Int.fdiv (4 * (nw : Int)) 4 = nw := by rw [Int.fdiv_eq_ediv_of_nonneg _ (by decide)]; omega
  have D1 := C.ok
  have M1 := C.m1
  have M2 := C.m2
  have M3 := C.m3
  have M4 := C.m4
  have M5 := C.m5
  have M6 := C.m6
  have D2 := C.types
  have D3 := C.buf
  have D4 := C.pool
  walk_at "con fill"
  intro dp un gd frames base g s RR B X T hd hu hp hsz hk hA hn ret
  walk_at "con enter"
  k_steps
  (try dsimp only)
  rename Fr _ _ _ _ => F9
  rename News _ _ _ _ => N9
  with_reducible rename Sep _ _ => S9
  refine' hQ9 _ _ (ret_int ?ri (ret _ _ F9.keep ((_, tupOf _) :: (_, tupOf _) :: (_, tupOf _) :: Ts') zs' _ _ _ a' _ _ _ _ _ _ _ _ ?r1 ?r2 ?le ?lq ?ne (news_ends (News.pick N9 (List.forall_mem_append.mpr ⟨?m1, ?m2⟩)))))
  case m1 => walk_at "con in"
  case ri => exact rfl
  case' r1 => refine' .cons (by k_mem) ?i1 (.cons (by k_mem) ?i2 (.cons (by k_mem) ?i3 .nil))
  case r2 => exact RowsIn.up3 (by assumption)
  case m2 => exact List.forall_mem_cons.mpr ⟨by k_mem, List.forall_mem_cons.mpr ⟨by k_mem, List.forall_mem_cons.mpr ⟨by k_mem, fun p hp => List.mem_of_mem_drop (i := 15) hp⟩⟩⟩
  case le => exact ge_cons (by assumption) (ge_cons (by assumption) (ge_cons (by assumption) hle))
  case lq => assumption
  case ne => exact List.forall_mem_cons.mpr ⟨Sep.ne S9 14 11 rfl rfl rfl, List.forall_mem_cons.mpr ⟨Sep.ne S9 13 11 rfl rfl rfl, List.forall_mem_cons.mpr ⟨Sep.ne S9 12 11 rfl rfl rfl, Sep.ne_in S9 (by k_mem)⟩⟩⟩
  all_goals walk_at "ins"
theorem rows_n13 : True := by
  w_top off
  k_with_none
  k_with "setat" => first | exact SetAt.head | (apply SetAt.tail; walk_at "setat")
  k_with "setF" => first | exact SetF.head | (apply SetF.tail; walk_at "setF")
  k_with "upd" => k_dflt (exact upd_sep (by with_reducible assumption) (by walk_at "setat") (by exact rfl) (by exact rfl))
  k_with "updF" => first | k_dflt (exact updF_sep (by with_reducible assumption) (by walk_at "setF") (by exact rfl) (by exact rfl)) | walk_at "updF2"
  k_with "cut" => first | exact Cut.nil | (apply Cut.take; walk_at "cut") | (apply Cut.keep; walk_at "cut")
  k_with "sub" => first | exact Sub.nil | (apply Sub.take; walk_at "sub") | (apply Sub.keep; walk_at "sub")
  k_with "con in" => repeat' (first | exact List.forall_mem_nil _ | refine List.forall_mem_cons.mpr ⟨by k_mem, ?_⟩)
  k_with "execs cons" => (k_here; (try k_made); (try k_gentoks); (refine wpAny_execs_cons (s := Shared.mk _ (Shared.gens s) (Shared.drawn s) _ (Shared.os s)) ?_); (try dsimp only); (try k_fold))
  k_with "con fill" => ((have hfill : PySem.Challenge.rw_pq0756_01 = PySem.Challenge.rw_pq0756_01 ∧ _root_.Mine.hd.heap_39 = _root_.Mine.hd.heap_39 := by (k_fill; exact ⟨rfl, rfl⟩)); clear hfill)
  k_with "con enter" => (refine' enter_def (w := _) (by assumption) (by assumption) (by assumption) (by assumption) (by assumption) (by assumption) (by assumption) (by (simp only [recursionLimit]; omega)) (by k_is) (by k_is) (by first | exact BindsTo.of_eq rfl | (refine' binds_K (by (refine' Frag.In.keeps (by assumption) (by assumption))) (by exact rfl) (by k_is) (by exact rfl) (by exact rfl) (by exact rfl)) | fail "con_enter: no rule for these arguments") (by exact locs rfl) (by exact rfl) ?_ (by exact rfl) (by exact rfl) (by exact rfl) (by decide); k_whole; intro L' h' Q9 E9 F' N' S' hE9 hQ9; (dsimp only [adrs, List.length_cons, List.length_nil] at S'); (try dsimp only))
  k_with "newTuple" => (k_here; (with_reducible rename Sep _ _ => S9); k_dflt (refine' newTuple_S (by k_asm) (by k_asm) S9 (by exact rfl) (by exact rfl) ?_; k_whole); intro l' h' F' N' S' l4; (try clear S9); (try k_sweep))
  k_with "newList" => (k_here; (with_reducible rename Sep _ _ => S9); k_dflt (refine' newList_S (by k_asm) (by k_asm) S9 (by exact rfl) (by exact rfl) ?_; k_whole); intro l' h' F' N' S' l4; (try clear S9); (try k_sweep))
  k_with "call ref" => (k_here; (with_reducible show wpAny _ _ (call (Value.ref _) _ _) _ _ _); (with_reducible rename Sep _ _ => S9); k_dflt (refine' call_clsS (by k_asm) (by k_asm) (by k_asm) S9 (by exact rfl) (by exact rfl) (by k_is) (by k_is) (by k_is) ?_; k_whole; intro x' d' h' F' N' S' l8 l9; (clear S9); (try k_sweep); k_enter))
  k_with "eval Dict nil nil" => (k_here; (with_reducible rename Sep _ _ => S9); k_dflt (refine' newDict_S (by k_asm) (by k_asm) S9 (by exact rfl) (by exact rfl) (TopRead.nolimit (by k_asm)) ?_; k_whole); intro d' h' o' F' N' S' l4 lo' hi' fi'; (try clear S9); (try k_sweep))
  k_with "call type:list" => (k_here; (with_reducible show wpAny _ _ (call (Value.type "list") [Value.ref _]) _ _ _); (with_reducible rename Sep _ _ => S9); k_dflt (refine' list_copyS (by k_asm) (by k_asm) S9 (by exact rfl) (by exact rfl) (by is_list) ?_ (by first | size_fits | ((rw [List.size_toArray, sizeLine_eq]); (simp only [List.length_append, List.length_cons, List.length_nil]); omega)); k_whole); intro D' c' h' F' N' S'; (try clear S9); (try k_sweep))
  k_with "con room" => first | k_dflt (exact Nat.le_of_ble_eq_true rfl) | k_dflt (exact room1 (by with_reducible assumption) rfl) | k_dflt (exact room2 (by with_reducible assumption) rfl) | k_dflt (exact room3 (by with_reducible assumption) rfl) | ((try simp only [depth_under_make, depth_under_kw, depth_in1, depth_deeper, depth_caller, units_in1, units_deeper, units_under_make, Around.mark_units, units_caller]); (try dsimp only); omega) | ((try simp only [Code.weight, Code.frames, Code.isCreation, Code.isGuard, Code.isCaller, Code.cUnits]); (try dsimp only); omega)
  k_with "call builtin:len" => (k_here; (with_reducible show wpAny _ _ (call (Value.builtin "len") [Value.ref _]) _ _ _); k_dflt (refine' kst_len (by k_asm) (by k_mem) rfl (by ((try simp only [List.length_append, List.length_cons, List.length_nil]); omega)) ?_; k_whole))
  trivial
theorem words_n131 : True := by
  k_with "ins" => first | exact ins_str (by omega) | exact ins_movi (by omega) | exact ins_addi (by omega) | exact ins_subi (by omega) | exact ins_bne (by omega) | exact ins_bne (by (simp only [List.length_append, List.length_cons, List.length_nil]; omega)) | exact ins_ldr (by omega) | exact ins_mov | exact ins_br
  k_with "dk" => first | assumption | (refine' DictOK.put (by walk_at "dk"))
  k_with "dk get" => first | assumption | exact getL_hit | (refine' getL_miss' (by decide) (by walk_at "dk get")) | (refine' DictOK.isSome (by walk_at "dk"))
  trivial
local macro_rules | `(tactic| k_get) => `(tactic| walk_at "dk get")
theorem words_n132 : True := by
  k_with "setAttr ref" => (k_here; k_dflt (refine' set_dict (by k_asm) (by k_asm) (by k_asm) (by k_inst) (by exact rfl) (by k_is) (by k_is) (by k_is) (by k_is) (by (refine' DictOK.isSome (by walk_at "dk"))) (by exact rfl) (by k_upd) (by (refine' DictOK.len (by walk_at "dk") (by omega))) ?_; k_whole; intro h' F' N'; (try k_sweep)))
  k_with "call ref" => (k_here; (with_reducible show wpAny _ _ (call (Value.ref 98) _) _ _ _); (with_reducible rename Sep _ _ => S9); k_dflt (refine' con_use (by k_asm) (by k_asm) (by k_asm) (by k_asm) (by k_asm) S9 (by walk_at "cut") (put_ok _ _ _ _ _ _ _ _ _ _ _ _ _ _ _ (by first | assumption | omega | ((simp only [List.length_append, List.length_cons, List.length_nil]); omega))) (by exact rfl) (by exact rfl) (by walk_at "con room") (by walk_at "con room") (by exact rfl) (by exact rfl) (by exact rfl) (by first | assumption | exact rfl) (by exact fun _ _ _ => True.intro) ?_; k_whole); (intro n' h' tk' XX' F' fr' l4 lf'); (intro a' tk' l5 hX'); (have N' := lf' _ hX'); (clear hX'); (clear lf'); (clear XX'); (have S' := Fresh.one fr' l5); (clear fr'); (replace l5 := Nat.le_trans l4 l5); (dsimp only [List.cons_append, List.nil_append] at N' S'); (try clear S9); (try dsimp only); (try k_sweep))
  k_with "call ref" => (k_here; (with_reducible show wpAny _ _ (call (Value.ref 140) _) _ _ _); (with_reducible rename Sep _ _ => S9); k_dflt (refine' con_use (by k_asm) (by k_asm) (by k_asm) (by k_asm) (by k_asm) S9 (by walk_at "cut") (setlast_ok _ _ _ _ _ _ _ _ _ _ _ _ _ _ _ _ _ _ _ _ _ (by first | assumption | omega | ((simp only [List.length_append, List.length_cons, List.length_nil]); omega))) (by exact rfl) (by exact rfl) (by walk_at "con room") (by walk_at "con room") (by exact rfl) (by exact rfl) (by exact rfl) (by first | assumption | exact rfl) (by exact fun _ _ _ => True.intro) ?_; k_whole); (intro n' h' tk' XX' F' fr' l4 lf'); (intro a' nn'' l5 hX'); (have N' := lf' _ hX'); (clear hX'); (clear lf'); (clear XX'); (have S' := Fresh.one fr' l5); (clear fr'); (replace l5 := Nat.le_trans l4 l5); (dsimp only [List.cons_append, List.nil_append] at N' S'); (try clear S9); (try dsimp only); (try k_sweep))
  k_with "call ref" => (k_here; (with_reducible show wpAny _ _ (call (Value.ref 269) _) _ _ _); (with_reducible rename Sep _ _ => S9); k_dflt (refine' con_use (by k_asm) (by k_asm) (by k_asm) (by k_asm) (by k_asm) S9 (by walk_at "cut") (frame_ok _ _ _ _ _ _ _ _ _ _ _ _ _ _ (by omega) (by assumption)) (by exact rfl) (by exact rfl) (by walk_at "con room") (by walk_at "con room") (by exact rfl) (by exact rfl) (by exact rfl) (by first | assumption | exact rfl) (by exact fun _ _ _ => True.intro) ?_; k_whole); (intro n' h' tk' XX' F' fr' l4 lf'); (intro t' hX'); (have N' := lf' _ hX'); (clear hX'); (clear lf'); (clear XX'); (have S' := Fresh.none fr'); (clear fr'); (dsimp only [List.cons_append, List.nil_append] at N' S'); (try clear S9); (try dsimp only); (try k_sweep))
  trivial
abbrev end_post (w : World) (x dx q b bd R ty p ft : Addr) (ces : List DictEntry) (cn nd : Nat) (t : Tok) (a0 a1 a2 : Addr) (zs : List Value) (nn : Nat) (s1 s2 s3 s4 tr : Tok) (low out : Int) : PostT := fun n G => ∀ (Ts : Led) (q' : Addr) (ws : List Value) (nn' : Nat), RowsIn Ts [.ref q'] [.subi 14 14 (4 * out - low)] → RowsIn Ts ws [.mov 14 11, .ldr 15 14 (-4), .ldr 11 14 (-8), .br 15] → (∀ p ∈ Ts, @LE.le Nat _ n p.1) → G ([(x, instObj 379 dx), (dx, dictOf ces cn), (q, tupOf [.str (Str.ofString "SUBI") s1, .int 14 s2, .int 14 s3, .int 0 s4]), (b, instObj 143 bd), (bd, dictOf [ent w "rows" t (.ref R)] nd), (R, listOf (.ref a0 :: .ref a1 :: .ref a2 :: Value.ref q' :: (zs ++ ws)).toArray nn')] ++ Ts) (.none)
set_option maxHeartbeats 16000000 in
theorem end_ok (w : World) (mean : ExcName → Option Value) (mg mb : Str → Option Value) (x dx q b bd R ty p ft : Addr) (ces : List DictEntry) (cn nd : Nat) (t : Tok) (a0 a1 a2 : Addr) (zs : List Value) (nn : Nat) (s1 s2 s3 s4 tr : Tok) (low out : Int) (C : CoderD ces ty b p ft low low out) (ho : 0 ≤ out) (hz : zs.length ≤ 800) :
    Con w mean mg mb 600 77 [.ref x, .int 3 tr] (fun _ => True) [(x, instObj 379 dx), (dx, dictOf ces cn), (q, tupOf [.str (Str.ofString "SUBI") s1, .int 14 s2, .int 14 s3, .int 0 s4]), (b, instObj 143 bd), (bd, dictOf [ent w "rows" t (.ref R)] nd), (R, listOf (.ref a0 :: .ref a1 :: .ref a2 :: Value.ref q :: zs).toArray nn)] (end_post w x dx q b bd R ty p ft ces cn nd t a0 a1 a2 zs nn s1 s2 s3 s4 tr low out) := by
  have D1 := C.ok
  have M1 := C.m1
  have M2 := C.m2
  have M3 := C.m3
  have M4 := C.m4
  have M5 := C.m5
  have M6 := C.m6
  have D2 := C.types
  have D3 := C.buf
  have D4 := C.pool
  walk_at "con fill"
  intro dp un gd frames base g s RR B X T hd hu hp hsz hk hA hn ret
  walk_at "con enter"
  k_steps
  (try dsimp only)
  rename Fr _ _ _ _ => F9
  rename News _ _ _ _ => N9
  simp only [List.append_assoc, List.cons_append, List.nil_append] at N9
  refine' hQ9 _ _ (ret _ _ F9.keep [(_, tupOf _), (_, tupOf _), (_, tupOf _), (_, tupOf _), (_, tupOf _)] _ _ _ ?r1 ?r2 ?le (news_ends (News.pick N9 (List.forall_mem_append.mpr ⟨?m1, ?m2⟩))))
  case m1 => walk_at "con in"
  case' r1 => refine' .cons (by k_mem) ?i0 .nil
  case' r2 => refine' .cons (by k_mem) ?i1 (.cons (by k_mem) ?i2 (.cons (by k_mem) ?i3 (.cons (by k_mem) ?i4 .nil)))
  case m2 => walk_at "con in"
  case le => (repeat' (first | exact List.forall_mem_nil _ | refine List.forall_mem_cons.mpr ⟨?_, ?_⟩)) <;> assumption
  all_goals walk_at "ins"
structure Mach where
  here : Int
  zero : Bool
  rs : List Int
  c : List (Int × Int)
def okR (a : Int) : Bool := decide (0 ≤ a) && decide (a < 16)
def stp : Ins → Mach → Option Mach
  | .str a b k, s => if okR a && okR b && kdfHas s.c (s.rs.getD b.toNat 0 + k) then some ⟨s.here + 1, s.zero, s.rs, kdfPut s.c (s.rs.getD b.toNat 0 + k) (s.rs.getD a.toNat 0)⟩ else none
  | .ldr a b k, s => if okR a && okR b then some ⟨s.here + 1, s.zero, s.rs.set a.toNat (kdfLook s.c (s.rs.getD b.toNat 0 + k) (-5)), s.c⟩ else none
  | .br b, s => if okR b then some ⟨s.rs.getD b.toNat 0, s.zero, s.rs, s.c⟩ else none
  | .bne d, s => some ⟨if s.zero then s.here + 1 else s.here + 1 + d, s.zero, s.rs, s.c⟩
  | .mov a c, s => if okR a && okR c then some ⟨s.here + 1, decide ((s.rs.set a.toNat (s.rs.getD c.toNat 0)).getD a.toNat 0 = 0), s.rs.set a.toNat (s.rs.getD c.toNat 0), s.c⟩ else none
  | .movi a k, s => if okR a then some ⟨s.here + 1, decide ((s.rs.set a.toNat k).getD a.toNat 0 = 0), s.rs.set a.toNat k, s.c⟩ else none
  | .addi a b k, s => if okR a && okR b then some ⟨s.here + 1, decide ((s.rs.set a.toNat (s.rs.getD b.toNat 0 + k)).getD a.toNat 0 = 0), s.rs.set a.toNat (s.rs.getD b.toNat 0 + k), s.c⟩ else none
  | .subi a b k, s => if okR a && okR b then some ⟨s.here + 1, decide ((s.rs.set a.toNat (s.rs.getD b.toNat 0 - k)).getD a.toNat 0 = 0), s.rs.set a.toNat (s.rs.getD b.toNat 0 - k), s.c⟩ else none
def runI (is : List Ins) (last : Int) : Nat → Mach → Option Mach
  | 0, s => if s.here = last then some s else none
  | n + 1, s => if s.here = last then some s else if s.here < 0 then none else match is[s.here.toNat]? with
    | none => none
    | some i => match stp i s with
      | none => none
      | some s' => runI is last n s'
theorem kdfPut_same {c : List (Int × Int)} {k v : Int} (h : kdfHas c k = true) : (kdfPut c k v).length = c.length := by
  unfold kdfPut
  unfold kdfHas at h
  rw [if_pos h, List.length_map]
/-- the rows in a heap -/
def ProgAt (g : Heap) (R : Addr) (vs : List Value) (is : List Ins) : Prop :=
  g.IsList R vs.toArray ∧ vs.length = is.length ∧ ∀ (i : Nat) (x : Ins), is[i]? = some x → ∃ a ws, vs[i]? = some (.ref a) ∧ IsTup g a ws.toArray ∧ InsIs x ws
/-- what holds between the turns -/
def Inv (is : List Ins) (last : Int) (fin : Mach) (here : Int) (zero : Bool) (turns : Int) (rs : List Int) (c : List (Int × Int)) : Prop :=
  0 ≤ turns ∧ rs.length = 16 ∧ c.length ≤ 1000 ∧ ∃ n : Nat, turns + n ≤ 400 ∧ runI is last n ⟨here, zero, rs, c⟩ = some fin
theorem inv_split {is : List Ins} {last : Int} {fin : Mach} {here : Int} {zero : Bool} {turns : Int} {rs : List Int} {c : List (Int × Int)} (h : Inv is last fin here zero turns rs c) :
    (here = last ∧ fin = ⟨here, zero, rs, c⟩) ∨ (here ≠ last ∧ turns < 400 ∧ 0 ≤ here ∧ here < is.length ∧ ∃ x, is[here.toNat]? = some x ∧ ∃ s', stp x ⟨here, zero, rs, c⟩ = some s' ∧ (s'.rs.length = rs.length → s'.c.length = c.length → Inv is last fin s'.here s'.zero (turns + 1) s'.rs s'.c)) := by
  obtain ⟨h0, hr, hc, n, hn, hx⟩ := h
  cases n with
  | zero =>
    unfold runI at hx
    split at hx
    · rename_i e; exact .inl ⟨e, (Option.some.inj hx).symm⟩
    · cases hx
  | succ n =>
    unfold runI at hx
    split at hx
    · rename_i e; exact .inl ⟨e, (Option.some.inj hx).symm⟩
    · rename_i e
      split at hx
      · cases hx
      · rename_i e0
        dsimp only at e e0 hx
        cases hi : is[here.toNat]? with
        | none => rw [hi] at hx; cases hx
        | some x =>
          rw [hi] at hx
          dsimp only at hx
          cases hs : stp x ⟨here, zero, rs, c⟩ with
          | none => rw [hs] at hx; cases hx
          | some s' =>
            rw [hs] at hx
            have hl := (List.getElem?_eq_some_iff.mp hi).1
            exact .inr ⟨e, by omega, by omega, by omega, x, rfl, s', hs, fun q1 q2 => ⟨by omega, by rw [q1, hr], by rw [q2]; exact hc, n, by omega, hx⟩⟩
/-- one lemma a kind: what the walk asks, and what it hands on -/
structure Turn (is : List Ins) (last : Int) (fin : Mach) (here turns : Int) (h' : Int) (z' : Bool) (rs' : List Int) (c' : List (Int × Int)) : Prop where
  inv : Inv is last fin h' z' (turns + 1) rs' c'
theorem okR_and {a : Int} (h : okR a = true) : 0 ≤ a ∧ a < 16 := by
  unfold okR at h
  simpa using h
def TurnAt (g : Heap) (vs : List Value) (is : List Ins) (last : Int) (fin : Mach) (here : Int) (zero : Bool) (turns : Int) (rs : List Int) (c : List (Int × Int)) (q : Addr) : Prop :=
  (∃ a b k t1 t2 t3 t4, IsTup g q #[.str (Str.ofString "STR") t1, .int a t2, .int b t3, .int k t4] ∧ 0 ≤ a ∧ a < 16 ∧ 0 ≤ b ∧ b < 16 ∧ Inv is last fin (here + 1) zero (turns + 1) rs (kdfPut c (rs.getD b.toNat 0 + k) (rs.getD a.toNat 0))) ∨
  (∃ a b k t1 t2 t3 t4, IsTup g q #[.str (Str.ofString "LDR") t1, .int a t2, .int b t3, .int k t4] ∧ 0 ≤ a ∧ a < 16 ∧ 0 ≤ b ∧ b < 16 ∧ Inv is last fin (here + 1) zero (turns + 1) (rs.set a.toNat (kdfLook c (rs.getD b.toNat 0 + k) (-5))) c) ∨
  (∃ b t1 t2 t3 t4, IsTup g q #[.str (Str.ofString "BR") t1, .str (Str.ofString "AL") t2, .int b t3, .int 0 t4] ∧ 0 ≤ b ∧ b < 16 ∧ Inv is last fin (rs.getD b.toNat 0) zero (turns + 1) rs c) ∨
  (∃ d t1 t2 t3 t4, IsTup g q #[.str (Str.ofString "B") t1, .str (Str.ofString "NE") t2, .int d t3, .int 0 t4] ∧ zero = true ∧ Inv is last fin (here + 1) true (turns + 1) rs c) ∨
  (∃ d t1 t2 t3 t4, IsTup g q #[.str (Str.ofString "B") t1, .str (Str.ofString "NE") t2, .int d t3, .int 0 t4] ∧ zero = false ∧ Inv is last fin (here + 1 + d) false (turns + 1) rs c) ∨
  (∃ a k t1 t2 t3 t4, IsTup g q #[.str (Str.ofString "MOV") t1, .int a t2, .int 0 t3, .int k t4] ∧ 0 ≤ a ∧ a < 16 ∧ 0 ≤ k ∧ k < 16 ∧ Inv is last fin (here + 1) (decide ((rs.set a.toNat (rs.getD k.toNat 0)).getD a.toNat 0 = 0)) (turns + 1) (rs.set a.toNat (rs.getD k.toNat 0)) c) ∨
  (∃ a k t1 t2 t3 t4, IsTup g q #[.str (Str.ofString "MOVI") t1, .int a t2, .int 0 t3, .int k t4] ∧ 0 ≤ a ∧ a < 16 ∧ Inv is last fin (here + 1) (decide ((rs.set a.toNat k).getD a.toNat 0 = 0)) (turns + 1) (rs.set a.toNat k) c) ∨
  (∃ a b k t1 t2 t3 t4, IsTup g q #[.str (Str.ofString "ADDI") t1, .int a t2, .int b t3, .int k t4] ∧ 0 ≤ a ∧ a < 16 ∧ 0 ≤ b ∧ b < 16 ∧ Inv is last fin (here + 1) (decide ((rs.set a.toNat (rs.getD b.toNat 0 + k)).getD a.toNat 0 = 0)) (turns + 1) (rs.set a.toNat (rs.getD b.toNat 0 + k)) c) ∨
  (∃ a b k t1 t2 t3 t4, IsTup g q #[.str (Str.ofString "SUBI") t1, .int a t2, .int b t3, .int k t4] ∧ 0 ≤ a ∧ a < 16 ∧ 0 ≤ b ∧ b < 16 ∧ Inv is last fin (here + 1) (decide ((rs.set a.toNat (rs.getD b.toNat 0 - k)).getD a.toNat 0 = 0)) (turns + 1) (rs.set a.toNat (rs.getD b.toNat 0 - k)) c)
theorem inv_turn {g : Heap} {R : Addr} {vs : List Value} {is : List Ins} {last : Int} {fin : Mach} {here : Int} {zero : Bool} {turns : Int} {rs : List Int} {c : List (Int × Int)} (P : ProgAt g R vs is) (h : Inv is last fin here zero turns rs c) :
    0 ≤ turns ∧ rs.length = 16 ∧ c.length ≤ 1000 ∧ ((here = last ∧ fin = ⟨here, zero, rs, c⟩) ∨
      (here ≠ last ∧ turns < 400 ∧ 0 ≤ here ∧ here < vs.length ∧ ∃ q, vs[here.toNat]? = some (.ref q) ∧ TurnAt g vs is last fin here zero turns rs c q)) := by
  refine ⟨h.1, h.2.1, h.2.2.1, ?_⟩
  rcases inv_split h with e | ⟨h1, h2, h3, h4, x, hx, s', hs, hI⟩
  · exact .inl e
  obtain ⟨q, ws, hq, ht, hw⟩ := P.2.2 _ _ hx
  refine .inr ⟨h1, h2, h3, by rw [P.2.1]; exact h4, q, hq, ?_⟩
  unfold TurnAt
  cases x with
  | str a b k =>
    obtain ⟨t1, t2, t3, t4, rfl⟩ := hw
    dsimp only [stp] at hs
    split at hs
    · rename_i ok
      simp only [Bool.and_eq_true] at ok
      cases hs
      have I := hI rfl (kdfPut_same ok.2)
      exact .inl ⟨a, b, k, t1, t2, t3, t4, ht, (okR_and ok.1.1).1, (okR_and ok.1.1).2, (okR_and ok.1.2).1, (okR_and ok.1.2).2, I⟩
    · cases hs
  | ldr a b k =>
    obtain ⟨t1, t2, t3, t4, rfl⟩ := hw
    dsimp only [stp] at hs
    split at hs
    · rename_i ok
      simp only [Bool.and_eq_true] at ok
      cases hs
      have I := hI (List.length_set ..) rfl
      exact .inr (.inl ⟨a, b, k, t1, t2, t3, t4, ht, (okR_and ok.1).1, (okR_and ok.1).2, (okR_and ok.2).1, (okR_and ok.2).2, I⟩)
    · cases hs
  | br b =>
    obtain ⟨t1, t2, t3, t4, rfl⟩ := hw
    dsimp only [stp] at hs
    split at hs
    · rename_i ok
      cases hs
      have I := hI rfl rfl
      exact .inr (.inr (.inl ⟨b, t1, t2, t3, t4, ht, (okR_and ok).1, (okR_and ok).2, I⟩))
    · cases hs
  | bne d =>
    obtain ⟨t1, t2, t3, t4, rfl⟩ := hw
    cases hs
    have I := hI rfl rfl
    cases zero with
    | true => exact .inr (.inr (.inr (.inl ⟨d, t1, t2, t3, t4, ht, rfl, I⟩)))
    | false => exact .inr (.inr (.inr (.inr (.inl ⟨d, t1, t2, t3, t4, ht, rfl, I⟩))))
  | mov a k =>
    obtain ⟨t1, t2, t3, t4, rfl⟩ := hw
    dsimp only [stp] at hs
    split at hs
    · rename_i ok
      simp only [Bool.and_eq_true] at ok
      cases hs
      have I := hI (List.length_set ..) rfl
      exact .inr (.inr (.inr (.inr (.inr (.inl ⟨a, k, t1, t2, t3, t4, ht, (okR_and ok.1).1, (okR_and ok.1).2, (okR_and ok.2).1, (okR_and ok.2).2, I⟩)))))
    · cases hs
  | movi a k =>
    obtain ⟨t1, t2, t3, t4, rfl⟩ := hw
    dsimp only [stp] at hs
    split at hs
    · rename_i ok
      cases hs
      have I := hI (List.length_set ..) rfl
      exact .inr (.inr (.inr (.inr (.inr (.inr (.inl ⟨a, k, t1, t2, t3, t4, ht, (okR_and ok).1, (okR_and ok).2, I⟩))))))
    · cases hs
  | addi a b k =>
    obtain ⟨t1, t2, t3, t4, rfl⟩ := hw
    dsimp only [stp] at hs
    split at hs
    · rename_i ok
      simp only [Bool.and_eq_true] at ok
      cases hs
      have I := hI (List.length_set ..) rfl
      exact .inr (.inr (.inr (.inr (.inr (.inr (.inr (.inl ⟨a, b, k, t1, t2, t3, t4, ht, (okR_and ok.1).1, (okR_and ok.1).2, (okR_and ok.2).1, (okR_and ok.2).2, I⟩)))))))
    · cases hs
  | subi a b k =>
    obtain ⟨t1, t2, t3, t4, rfl⟩ := hw
    dsimp only [stp] at hs
    split at hs
    · rename_i ok
      simp only [Bool.and_eq_true] at ok
      cases hs
      have I := hI (List.length_set ..) rfl
      exact .inr (.inr (.inr (.inr (.inr (.inr (.inr (.inr ⟨a, b, k, t1, t2, t3, t4, ht, (okR_and ok.1).1, (okR_and ok.1).2, (okR_and ok.2).1, (okR_and ok.2).2, I⟩)))))))
    · cases hs
theorem row_item {A : Around} {E : Value → Shared → Prop} {s : Shared} {w : World} {h₀ : Heap} {L : Addr} {m : Str → Option Value} {R : Addr} {vs : List Value} {k : Int} {u : Tok} {q : Addr} {Q : Value → Shared → Prop} {value slice : PySem.Expr}
    (F : Fr h₀ L s.heap m) (hl : h₀.IsList R vs.toArray) (h0 : 0 ≤ k) (hhi : k < 2 ^ 63) (hx : vs[k.toNat]? = some (.ref q)) (h : Q (.ref q) s)
    (hs : subscripted slice false (.ref R) (.int k u) = operate [.ref R, .int k u] (getItem (.ref R) (.int k u)) := by with_unfolding_all rfl) :
    wpAny (model PG w) A (subscriptTail value slice (.ref R) (.int k u)) Q E s :=
  have hl' : s.heap.IsList R vs.toArray := hl.at fun o e => F.keep R o e
  tail_any hl'.typeIs slot_list_getitem.lookup (wpAny_getItem_list hl' h0 hhi (by simpa using hx) h) hs
theorem ground_len {A : Around} {E : Value → Shared → Prop} {s : Shared} {w : World} {h₀ : Heap} {L : Addr} {m : Str → Option Value} {R : Addr} {vs : List Value} {Q : Value → Shared → Prop}
    (F : Fr h₀ L s.heap m) (hl : h₀.IsList R vs.toArray) (hz : vs.length ≤ 1000) (h : Q (.int vs.length (s.toks + 1)) { s with toks := s.toks + 1 + 1 }) : wpAny (model PG w) A (call (.builtin "len") [.ref R]) Q E s :=
  have hl' : s.heap.IsList R vs.toArray := hl.at fun o e => F.keep R o e
  len_list hl' (by rw [List.size_toArray]; omega) (by rw [List.size_toArray]; exact h)
theorem rows_n15 : True := by
  w_top off
  k_with_none
  k_with "setat" => first | exact SetAt.head | (apply SetAt.tail; walk_at "setat")
  k_with "setF" => first | exact SetF.head | (apply SetF.tail; walk_at "setF")
  k_with "upd" => k_dflt (exact upd_sep (by with_reducible assumption) (by walk_at "setat") (by exact rfl) (by exact rfl))
  k_with "updF" => first | k_dflt (exact updF_sep (by with_reducible assumption) (by walk_at "setF") (by exact rfl) (by exact rfl)) | walk_at "updF2"
  k_with "cut" => first | exact Cut.nil | (apply Cut.take; walk_at "cut") | (apply Cut.keep; walk_at "cut")
  k_with "sub" => first | exact Sub.nil | (apply Sub.take; walk_at "sub") | (apply Sub.keep; walk_at "sub")
  k_with "con in" => repeat' (first | exact List.forall_mem_nil _ | refine List.forall_mem_cons.mpr ⟨by k_mem, ?_⟩)
  k_with "execs cons" => (k_here; (try k_made); (try k_gentoks); (refine wpAny_execs_cons (s := Shared.mk _ (Shared.gens s) (Shared.drawn s) _ (Shared.os s)) ?_); (try dsimp only); (try k_fold))
  k_with "con fill" => ((have hfill : PySem.Challenge.rw_pq0756_01 = PySem.Challenge.rw_pq0756_01 ∧ _root_.Mine.hd.heap_39 = _root_.Mine.hd.heap_39 := by (k_fill; exact ⟨rfl, rfl⟩)); clear hfill)
  k_with "con enter" => (refine' enter_def (w := _) (by assumption) (by assumption) (by assumption) (by assumption) (by assumption) (by assumption) (by assumption) (by (simp only [recursionLimit]; omega)) (by k_is) (by k_is) (by first | exact BindsTo.of_eq rfl | (refine' binds_K (by (refine' Frag.In.keeps (by assumption) (by assumption))) (by exact rfl) (by k_is) (by exact rfl) (by exact rfl) (by exact rfl)) | fail "con_enter: no rule for these arguments") (by exact locs rfl) (by exact rfl) ?_ (by exact rfl) (by exact rfl) (by exact rfl) (by decide); k_whole; intro L' h' Q9 E9 F' N' S' hE9 hQ9; (dsimp only [adrs, List.length_cons, List.length_nil] at S'); (try dsimp only))
  k_with "newTuple" => (k_here; (with_reducible rename Sep _ _ => S9); k_dflt (refine' newTuple_S (by k_asm) (by k_asm) S9 (by exact rfl) (by exact rfl) ?_; k_whole); intro l' h' F' N' S' l4; (try clear S9); (try k_sweep))
  k_with "newList" => (k_here; (with_reducible rename Sep _ _ => S9); k_dflt (refine' newList_S (by k_asm) (by k_asm) S9 (by exact rfl) (by exact rfl) ?_; k_whole); intro l' h' F' N' S' l4; (try clear S9); (try k_sweep))
  k_with "call ref" => (k_here; (with_reducible show wpAny _ _ (call (Value.ref _) _ _) _ _ _); (with_reducible rename Sep _ _ => S9); k_dflt (refine' call_clsS (by k_asm) (by k_asm) (by k_asm) S9 (by exact rfl) (by exact rfl) (by k_is) (by k_is) (by k_is) ?_; k_whole; intro x' d' h' F' N' S' l8 l9; (clear S9); (try k_sweep); k_enter))
  k_with "eval Dict nil nil" => (k_here; (with_reducible rename Sep _ _ => S9); k_dflt (refine' newDict_S (by k_asm) (by k_asm) S9 (by exact rfl) (by exact rfl) (TopRead.nolimit (by k_asm)) ?_; k_whole); intro d' h' o' F' N' S' l4 lo' hi' fi'; (try clear S9); (try k_sweep))
  k_with "call type:list" => (k_here; (with_reducible show wpAny _ _ (call (Value.type "list") [Value.ref _]) _ _ _); (with_reducible rename Sep _ _ => S9); k_dflt (refine' list_copyS (by k_asm) (by k_asm) S9 (by exact rfl) (by exact rfl) (by is_list) ?_ (by first | size_fits | ((rw [List.size_toArray, sizeLine_eq]); (simp only [List.length_append, List.length_cons, List.length_nil]); omega)); k_whole); intro D' c' h' F' N' S'; (try clear S9); (try k_sweep))
  k_with "con room" => first | k_dflt (exact Nat.le_of_ble_eq_true rfl) | k_dflt (exact room1 (by with_reducible assumption) rfl) | k_dflt (exact room2 (by with_reducible assumption) rfl) | k_dflt (exact room3 (by with_reducible assumption) rfl) | ((try simp only [depth_under_make, depth_under_kw, depth_in1, depth_deeper, depth_caller, units_in1, units_deeper, units_under_make, Around.mark_units, units_caller]); (try dsimp only); omega) | ((try simp only [Code.weight, Code.frames, Code.isCreation, Code.isGuard, Code.isCaller, Code.cUnits]); (try dsimp only); omega)
  k_with "call builtin:len" => (k_here; (with_reducible show wpAny _ _ (call (Value.builtin "len") [Value.ref _]) _ _ _); k_dflt (refine' kst_len (by k_asm) (by k_mem) rfl (by ((try simp only [List.length_append, List.length_cons, List.length_nil]); omega)) ?_; k_whole))
  trivial
theorem words_n151 : True := by
  k_with "KswEnd" => ((with_reducible show KswEnd _ _ _ _ _ _ _ _ _ _ _ _); (rename Fr _ _ _ _ => fE); (rename News _ _ _ _ => nE); (try simp only [List.push_toArray] at nE); (with_reducible rename Inv _ _ _ _ _ _ _ _ => pE); refine' ksw_end ⟨_, _, _, _, _, _, _, _, _, _, _⟩ fE nE (by kst_in) (by (try dsimp only); exact ⟨by assumption, by assumption, by assumption⟩) (by kst_all) (by ksw_same) pE (by (try dsimp only); omega))
  k_with "call builtin:len" => (k_here; (with_reducible show wpAny _ _ (call (Value.builtin "len") [Value.ref _]) _ _ _); k_dflt (refine' ground_len (by k_asm) (by assumption) (by assumption) ?_; k_whole))
  k_with "my turn" => ((rename Inv _ _ _ _ _ _ _ _ => kI); (rename ProgAt _ _ _ _ => kP); (obtain ⟨i0, i1, i2, i3⟩ := inv_turn kP kI); (rcases i3 with ⟨ie, i4⟩ | ⟨ie, i5, i6, i7, q, hq, i8⟩))
  k_with "execs cons" => ((with_reducible show wpAny _ _ (execs (Stmt.Assign _ _ ⟨320, _, _, _⟩ :: _) _) _ _ _); (with_reducible rename TurnAt _ _ _ _ _ _ _ _ _ _ _ => i8); (rename Inv _ _ _ _ _ _ _ _ => kI); (clear kI); (unfold TurnAt at i8); (rcases i8 with ⟨a, b, k, y1, y2, y3, y4, ht, j1, j2, j3, j4, jI⟩ | ⟨a, b, k, y1, y2, y3, y4, ht, j1, j2, j3, j4, jI⟩ | ⟨b, y1, y2, y3, y4, ht, j1, j2, jI⟩ | ⟨b, y1, y2, y3, y4, ht, j1, jI⟩ | ⟨b, y1, y2, y3, y4, ht, j1, jI⟩ | ⟨a, k, y1, y2, y3, y4, ht, j1, j2, j3, j4, jI⟩ | ⟨a, k, y1, y2, y3, y4, ht, j1, j2, jI⟩ | ⟨a, b, k, y1, y2, y3, y4, ht, j1, j2, j3, j4, jI⟩ | ⟨a, b, k, y1, y2, y3, y4, ht, j1, j2, j3, j4, jI⟩); (all_goals (try subst j1)))
  k_with "subscriptTail" => (k_here; (with_reducible show wpAny _ _ (subscriptTail _ _ (Value.ref _) (Value.int _ _)) _ _ _); k_dflt (refine' row_item (by k_asm) (by assumption) (by assumption) (by omega) (by assumption) ?_ (by with_unfolding_all rfl); k_whole))
  trivial
abbrev walked_post (w : World) (R ra ca : Addr) (vs us : List Value) (is : List Ins) (rs : List Int) (kr : Nat) (o : Obj) (kvs : List (Int × Value)) (c : List (Int × Int)) (first last : Int) (t1 t2 : Tok) (fin : Mach) : PostT := fun n G => ∀ (us' : List Value) (kr' : Nat) (o' : Obj) (kvs' : List (Int × Value)) (t : Tok), IntsAre us' fin.rs → o'.IsDictOf (PySem.intKind PG w) kvs' → PyProof.V.FlatPairs PyData.int kvs' (kdfD fin.c) → fin.here = last → G ([(ra, listOf us'.toArray kr'), (ca, o')]) (.int last t)
set_option maxHeartbeats 16000000 in
theorem walked_ok (w : World) (mean : ExcName → Option Value) (mg mb : Str → Option Value) (R ra ca : Addr) (vs us : List Value) (is : List Ins) (rs : List Int) (kr : Nat) (o : Obj) (kvs : List (Int × Value)) (c : List (Int × Int)) (first last : Int) (t1 t2 : Tok) (fin : Mach) (hI : Inv is last fin first false 0 rs c) (hu : IntsAre us rs) (hdo : o.IsDictOf (PySem.intKind PG w) kvs) (hfo : PyProof.V.FlatPairs PyData.int kvs (kdfD c)) (hz : vs.length ≤ 1000) (hlo : (ca == sysModules) = false) :
    Con w mean mg mb 900 454 [.ref R, .ref ra, .ref ca, .int first t1, .int last t2] (fun g => ProgAt g R vs is) [(ra, listOf us.toArray kr), (ca, o)] (walked_post w R ra ca vs us is rs kr o kvs c first last t1 t2 fin) := by
  (k_with "exec While BoolOp cons nil" => (k_while (fun _ here zero turns rs c => Inv is last fin here zero turns rs c) (fun _ _ _ turns _ _ => (400 - turns).toNat) "here" "zero" "turns" "regs_of" "cells"; walk_at "my turn"))
  (k_with "exec While BoolOp" => (k_while (fun _ here zero turns rs c => Inv is last fin here zero turns rs c) (fun _ _ _ turns _ _ => (400 - turns).toNat) "here" "zero" "turns" "regs_of" "cells"; walk_at "my turn"))
  (k_with "state" => first | exact hI | assumption)
  walk_at "con fill"
  intro dp un gd frames base g s RR B X T hd hu hp hsz hk hA hn ret
  walk_at "con enter"
  have hprog := hp
  have hrows : g.IsList R vs.toArray := hprog.1
  k_steps
  all_goals (try (exfalso; omega))
  all_goals (try dsimp only)
  rename fin = _ => hfin
  rename Fr _ _ _ _ => F9
  rename News _ _ _ _ => N9
  subst hfin
  (with_reducible rename (_ : Int) = last => hlast)
  exact hQ9 _ _ (ret_int (by omega) (ret _ _ F9.keep _ _ _ _ _ (by assumption) (by assumption) (by assumption) (by assumption) (news_ends N9)))
/-- the cells that the law lays -/
def cellsN (o : Int) (n : Nat) : List (Int × Int) := (List.range n).map fun i : Nat => (o - 160 + (i : Int) * 4, 7000 + (o - 160 + (i : Int) * 4))
theorem cellsN_length (o : Int) (n : Nat) : (cellsN o n).length = n := by simp [cellsN]
theorem cellsN_has {o : Int} {n i : Nat} (h : i < n) : kdfHas (cellsN o n) (o - 160 + (i : Int) * 4) = true := by
  unfold kdfHas cellsN
  rw [List.any_eq_true]
  exact ⟨_, List.mem_map.mpr ⟨i, List.mem_range.mpr h, rfl⟩, by simp⟩
theorem cellsN_not {o : Int} {n : Nat} {k : Int} (h : ∀ i : Nat, i < n → k ≠ o - 160 + (i : Int) * 4) : kdfHas (cellsN o n) k = false := by
  unfold kdfHas cellsN
  rw [List.any_eq_false]
  intro p hp
  obtain ⟨i, hi, rfl⟩ := List.mem_map.mp hp
  simpa using fun e => h i (List.mem_range.mp hi) e.symm
theorem cellsN_put (o : Int) (n : Nat) : kdfPut (cellsN o n) (o - 160 + (n : Int) * 4) (7000 + (o - 160 + (n : Int) * 4)) = cellsN o (n + 1) := by
  have h : ((cellsN o n).any fun p => decide (p.1 = o - 160 + (n : Int) * 4)) = false := cellsN_not (fun i hi e => by omega)
  unfold kdfPut
  rw [h]
  simp only [Bool.false_eq_true, if_false]
  unfold cellsN
  rw [List.range_succ, List.map_append]
  rfl
theorem look_put (c : List (Int × Int)) (k v j d : Int) : kdfLook (kdfPut c k v) j d = if j = k then v else kdfLook c j d := by
  unfold kdfPut
  split
  · rename_i hc
    unfold kdfLook
    induction c with
    | nil => simp at hc
    | cons p c ih =>
      rw [List.map_cons, List.find?_cons, List.find?_cons]
      by_cases hp : p.1 = k
      · simp only [hp, decide_true, if_true]
        by_cases hj : j = k
        · subst hj; simp
        · have hj' : ¬ k = j := fun e => hj e.symm
          simp only [hj', decide_false, hj, if_false]
          by_cases hc2 : (c.any fun p => decide (p.1 = k)) = true
          · have := ih hc2
            rw [if_neg hj] at this
            exact this
          · have e : c.map (fun p => if decide (p.1 = k) = true then (p.1, v) else p) = c := by
              refine (List.map_congr_left (g := id) fun x hx => ?_).trans (List.map_id c)
              have : ¬ x.1 = k := fun e => hc2 (List.any_eq_true.mpr ⟨x, hx, by simp [e]⟩)
              simp [this]
            rw [e]
      · have hc2 : (c.any fun p => decide (p.1 = k)) = true := by simpa [hp] using hc
        simp only [hp, decide_false, Bool.false_eq_true, if_false]
        by_cases hj : p.1 = j
        · subst hj; simp [hp]
        · simp only [hj, decide_false]
          exact ih hc2
  · rename_i hc
    unfold kdfLook
    rw [List.find?_append]
    by_cases hj : j = k
    · subst hj
      have : (c.find? fun p => decide (p.1 = j)) = none := by
        rw [List.find?_eq_none]
        intro x hx q
        exact hc (List.any_eq_true.mpr ⟨x, hx, q⟩)
      rw [this]
      simp
    · have hj' : ¬ k = j := fun e => hj e.symm
      simp [hj, hj']
/-- what the stack holds when n of the q zero words are laid -/
structure CellsAre (c : List (Int × Int)) (o q : Int) (n : Nat) : Prop where
  len : c.length = 46
  has : ∀ i : Nat, i < 46 → kdfHas c (o - 160 + (i : Int) * 4) = true
  link : ∀ d, kdfLook c (o - 4) d = 100000
  fp : ∀ d, kdfLook c (o - 8) d = 8888
  zero : ∀ i : Nat, i < n → ∀ d, kdfLook c (o - 8 - 4 * q + 4 * (i : Int)) d = 0
  rest : ∀ v d, v ≠ o - 4 → v ≠ o - 8 → (v < o - 8 - 4 * q ∨ o - 8 ≤ v) → kdfLook c v d = kdfLook (cellsN o 46) v d
theorem CellsAre.hasAt {c : List (Int × Int)} {o q : Int} {n : Nat} (C : CellsAre c o q n) {v : Int} (i : Nat) (h : i < 46) (e : v = o - 160 + (i : Int) * 4) : kdfHas c v = true := by rw [e]; exact C.has i h
theorem has_put {c : List (Int × Int)} {k v j : Int} (h : kdfHas c j = true) : kdfHas (kdfPut c k v) j = true := by rw [kdyHas_put, h, Bool.or_true]
theorem cells_start {o q : Int} (hq : 0 ≤ q) : CellsAre (kdfPut (kdfPut (cellsN o 46) (o - 4) 100000) (o - 8) 8888) o q 0 := by
  have h1 : kdfHas (cellsN o 46) (o - 4) = true := by have := cellsN_has (o := o) (n := 46) (i := 39) (by decide); rwa [show o - 160 + ((39 : Nat) : Int) * 4 = o - 4 by omega] at this
  have h2 : kdfHas (cellsN o 46) (o - 8) = true := by have := cellsN_has (o := o) (n := 46) (i := 38) (by decide); rwa [show o - 160 + ((38 : Nat) : Int) * 4 = o - 8 by omega] at this
  refine ⟨?_, ?_, ?_, ?_, ?_, ?_⟩
  · rw [kdfPut_same (has_put h2), kdfPut_same h1, cellsN_length]
  · intro i hi; exact has_put (has_put (cellsN_has hi))
  · intro d; rw [look_put, look_put, if_neg (by omega), if_pos rfl]
  · intro d; rw [look_put, if_pos rfl]
  · intro i hi; omega
  · intro v d a b _; rw [look_put, look_put, if_neg b, if_neg a]
theorem CellsAre.step {c : List (Int × Int)} {o q : Int} {n : Nat} (C : CellsAre c o q n) (hq : q ≤ 9) (hn : (n : Int) < q) : CellsAre (kdfPut c (o - 8 - 4 * q + 4 * (n : Int)) 0) o q (n + 1) := by
  refine ⟨?_, ?_, ?_, ?_, ?_, ?_⟩
  · rw [kdfPut_same (C.hasAt (38 - q + n).toNat (by omega) (by omega)), C.len]
  · intro i hi; exact has_put (C.has i hi)
  · intro d; rw [look_put, if_neg (by omega)]; exact C.link d
  · intro d; rw [look_put, if_neg (by omega)]; exact C.fp d
  · intro i hi d
    rw [look_put]
    split
    · rfl
    · exact C.zero i (by omega) d
  · intro v d a b e; rw [look_put, if_neg (by omega)]; exact C.rest v d a b e
theorem CellsAre.spot {c : List (Int × Int)} {o q : Int} {n : Nat} (C : CellsAre c o q n) (hn : (n : Int) = q) (i : Nat) (hi : i < 46) :
    kdfHas c (o - 160 + (i : Int) * 4) = true ∧ kdfHas (cellsN o 46) (o - 160 + (i : Int) * 4) = true ∧ (o - 160 + (i : Int) * 4 < o - 8 - 4 * q ∨ o - 8 ≤ o - 160 + (i : Int) * 4 ∨ kdfLook c (o - 160 + (i : Int) * 4) 0 = 0) ∧
      ((o - 8 - 4 * q ≤ o - 160 + (i : Int) * 4 ∧ o - 160 + (i : Int) * 4 < o - 8) ∨ o - 160 + (i : Int) * 4 = o - 4 ∨ o - 160 + (i : Int) * 4 = o - 8 ∨ kdfLook c (o - 160 + (i : Int) * 4) 0 = kdfLook (cellsN o 46) (o - 160 + (i : Int) * 4) 0) := by
  refine ⟨C.has i hi, cellsN_has hi, ?_, ?_⟩
  · by_cases h1 : o - 160 + (i : Int) * 4 < o - 8 - 4 * q
    · exact .inl h1
    · by_cases h2 : o - 8 ≤ o - 160 + (i : Int) * 4
      · exact .inr (.inl h2)
      · have := C.zero (i - 38 + q).toNat (by omega) 0
        rw [show o - 8 - 4 * q + 4 * (((i - 38 + q : Int).toNat : Nat) : Int) = o - 160 + (i : Int) * 4 by omega] at this
        exact .inr (.inr this)
  · by_cases h1 : o - 8 - 4 * q ≤ o - 160 + (i : Int) * 4 ∧ o - 160 + (i : Int) * 4 < o - 8
    · exact .inl h1
    · by_cases h2 : o - 160 + (i : Int) * 4 = o - 4
      · exact .inr (.inl h2)
      · by_cases h3 : o - 160 + (i : Int) * 4 = o - 8
        · exact .inr (.inr (.inl h3))
        · exact .inr (.inr (.inr (C.rest _ 0 h2 h3 (by omega))))
theorem getD_set {l : List Int} {a b : Nat} {v : Int} : (l.set a v).getD b 0 = if a = b ∧ a < l.length then v else l.getD b 0 := by
  simp only [List.getD_eq_getElem?_getD, List.getElem?_set]
  by_cases h : a = b
  · subst h
    by_cases h2 : a < l.length
    · simp [h2]
    · simp [h2, List.getElem?_eq_none (Nat.le_of_not_lt h2)]
  · simp [h]
theorem getD_hit {l : List Int} {a : Nat} {v : Int} (h : a < l.length) : (l.set a v).getD a 0 = v := by rw [getD_set, if_pos ⟨rfl, h⟩]
theorem getD_miss {l : List Int} {a b : Nat} {v : Int} (h : a ≠ b) : (l.set a v).getD b 0 = l.getD b 0 := by rw [getD_set, if_neg (fun x => h x.1)]
theorem runI_step {is : List Ins} {last : Int} {n : Nat} {s s' : Mach} {i : Ins} (h1 : s.here ≠ last) (h2 : 0 ≤ s.here) (hi : is[s.here.toNat]? = some i) (hs : stp i s = some s') : runI is last (n + 1) s = runI is last n s' := by
  rw [runI, if_neg h1, if_neg (by omega), hi]
  dsimp only
  rw [hs]
theorem runI_end {is : List Ins} {last : Int} {n : Nat} {s : Mach} (h : s.here = last) : runI is last n s = some s := by
  cases n <;> (rw [runI]; rw [if_pos h])
/-- the registers, behind the first four rows -/
structure RegsAre (rs : List Int) (o size : Int) : Prop where
  len : rs.length = 16
  r11 : rs.getD 11 0 = o
  r14 : rs.getD 14 0 = o - size
theorem RegsAre.set {rs : List Int} {o size v : Int} {a : Nat} (R : RegsAre rs o size) (h1 : a ≠ 11) (h2 : a ≠ 14) : RegsAre (rs.set a v) o size :=
  ⟨by rw [List.length_set]; exact R.len, by rw [getD_miss h1]; exact R.r11, by rw [getD_miss h2]; exact R.r14⟩
theorem stp_str {a b k here : Int} {zero : Bool} {rs : List Int} {c : List (Int × Int)} (ha : okR a = true) (hb : okR b = true) (h : kdfHas c (rs.getD b.toNat 0 + k) = true) :
    stp (.str a b k) ⟨here, zero, rs, c⟩ = some ⟨here + 1, zero, rs, kdfPut c (rs.getD b.toNat 0 + k) (rs.getD a.toNat 0)⟩ := by
  unfold stp
  dsimp only
  rw [ha, hb, h]
  rfl
theorem run_strs {is : List Ins} {last : Int} {o q size : Int} {rs : List Int} (hq : q ≤ 9) (R : RegsAre rs o size) (h10 : rs.getD 10 0 = 0) : ∀ (n i p m : Nat) (z : Bool) (c : List (Int × Int)),
    (∀ j : Nat, j < n → is[p + j]? = some (.str 10 11 (0 - 8 - 4 * q + 4 * ((i : Int) + (j : Int))))) → ((p + n : Nat) : Int) ≤ last → CellsAre c o q i → (i : Int) + n ≤ q →
    ∃ c', runI is last (n + m) ⟨(p : Int), z, rs, c⟩ = runI is last m ⟨((p + n : Nat) : Int), z, rs, c'⟩ ∧ CellsAre c' o q (i + n)
  | 0, i, p, m, z, c, _, _, C, _ => ⟨c, by simp, C⟩
  | n + 1, i, p, m, z, c, hp, hl, C, hi => by
    have h0 := hp 0 (by omega)
    have e : rs.getD (Int.toNat 11) 0 + (0 - 8 - 4 * q + 4 * ((i : Int) + ((0 : Nat) : Int))) = o - 8 - 4 * q + 4 * (i : Int) := by
      rw [show rs.getD (Int.toNat 11) 0 = o from R.r11]; omega
    have hs := stp_str (a := 10) (b := 11) (k := 0 - 8 - 4 * q + 4 * ((i : Int) + ((0 : Nat) : Int))) (here := (p : Int)) (zero := z) (rs := rs) (c := c) rfl rfl (by rw [e]; exact C.hasAt (38 - q + i).toNat (by omega) (by omega))
    rw [e, show rs.getD (Int.toNat 10) 0 = 0 from h10] at hs
    obtain ⟨c', h1, h2⟩ := run_strs (is := is) (last := last) hq R h10 n (i + 1) (p + 1) m z _ (fun j hj => by
      have := hp (j + 1) (by omega)
      rw [show p + 1 + j = p + (j + 1) by omega, this]
      exact congrArg (fun t => some (Ins.str 10 11 t)) (by omega)) (by omega) (C.step hq (by omega)) (by omega)
    refine ⟨c', ?_, by rw [show i + (n + 1) = i + 1 + n by omega]; exact h2⟩
    rw [show n + 1 + m = n + m + 1 by omega, runI_step (i := .str 10 11 (0 - 8 - 4 * q + 4 * ((i : Int) + ((0 : Nat) : Int)))) (by dsimp only; omega) (by dsimp only; omega) (by simpa using h0) hs]
    rw [show (p : Int) + 1 = ((p + 1 : Nat) : Int) by omega, h1, show p + 1 + n = p + (n + 1) by omega]
theorem zstrs_length (off : Int) : ∀ (n : Nat) (i : Int), (zstrs off n i).length = n
  | 0, _ => rfl
  | n + 1, i => by rw [zstrs, List.length_cons, zstrs_length off n]
theorem zstrs_at (off : Int) : ∀ (n : Nat) (i : Int) (j : Nat), j < n → (zstrs off n i)[j]? = some (.str 10 11 (off + 4 * (i + (j : Int))))
  | 0, _, _, h => by omega
  | n + 1, i, 0, _ => by simp [zstrs]
  | n + 1, i, j + 1, h => by
    rw [zstrs, List.getElem?_cons_succ, zstrs_at off n (i + 1) j (by omega)]
    exact congrArg (fun t => some (Ins.str 10 11 t)) (by omega)
/-- one turn of the long way's loop, and all of them -/
theorem run_loop {is : List Ins} {last : Int} {o q size : Int} (hq : q ≤ 9) (h7 : is[7]? = some (.str 10 12 0)) (h8 : is[8]? = some (.addi 12 12 4)) (h9 : is[9]? = some (.subi 0 0 1)) (h10 : is[10]? = some (.bne (-4))) (hl : 11 ≤ last) : ∀ (n i m : Nat) (z : Bool) (rs : List Int) (c : List (Int × Int)),
    (i : Int) + (n + 1 : Nat) = q → CellsAre c o q i → RegsAre rs o size → rs.getD 10 0 = 0 → rs.getD 12 0 = o - 8 - 4 * q + 4 * (i : Int) → rs.getD 0 0 = ((n + 1 : Nat) : Int) →
    ∃ z' rs' c', runI is last (4 * (n + 1) + m) ⟨7, z, rs, c⟩ = runI is last m ⟨11, z', rs', c'⟩ ∧ CellsAre c' o q (i + (n + 1)) ∧ RegsAre rs' o size
  | n, i, m, z, rs, c, hi, C, R, r10, r12, r0 => by
    have L := R.len
    have e : rs.getD (Int.toNat 12) 0 + 0 = o - 8 - 4 * q + 4 * (i : Int) := by rw [show rs.getD (Int.toNat 12) 0 = _ from r12]; omega
    have s1 := stp_str (a := 10) (b := 12) (k := 0) (here := 7) (zero := z) (rs := rs) (c := c) rfl rfl (by rw [e]; exact C.hasAt (38 - q + i).toNat (by omega) (by omega))
    rw [e, show rs.getD (Int.toNat 10) 0 = 0 from r10] at s1
    have C' := C.step hq (by omega)
    have t1 : runI is last (4 * (n + 1) + m) ⟨7, z, rs, c⟩ = runI is last (4 * n + 3 + m) ⟨8, z, rs, kdfPut c (o - 8 - 4 * q + 4 * (i : Int)) 0⟩ := by
      rw [show 4 * (n + 1) + m = 4 * n + 3 + m + 1 by omega]
      exact runI_step (by dsimp only; omega) (by dsimp only; omega) h7 s1
    have t2 : ∀ (N : Nat) (z : Bool) (c : List (Int × Int)), runI is last (N + 1) ⟨8, z, rs, c⟩ = runI is last N ⟨9, decide ((rs.set 12 (rs.getD 12 0 + 4)).getD 12 0 = 0), rs.set 12 (rs.getD 12 0 + 4), c⟩ := fun N z c =>
      runI_step (by dsimp only; omega) (by dsimp only; omega) h8 rfl
    have t3 : ∀ (N : Nat) (z : Bool) (rs : List Int) (c : List (Int × Int)), runI is last (N + 1) ⟨9, z, rs, c⟩ = runI is last N ⟨10, decide ((rs.set 0 (rs.getD 0 0 - 1)).getD 0 0 = 0), rs.set 0 (rs.getD 0 0 - 1), c⟩ := fun N z rs c =>
      runI_step (by dsimp only; omega) (by dsimp only; omega) h9 rfl
    have t4 : ∀ (N : Nat) (z : Bool) (rs : List Int) (c : List (Int × Int)), runI is last (N + 1) ⟨10, z, rs, c⟩ = runI is last N ⟨if z then 11 else 7, z, rs, c⟩ := fun N z rs c =>
      runI_step (by dsimp only; omega) (by dsimp only; omega) h10 (by cases z <;> rfl)
    rw [show 4 * n + 3 + m = 4 * n + 2 + m + 1 by omega, t2, show 4 * n + 2 + m = 4 * n + 1 + m + 1 by omega, t3, show 4 * n + 1 + m = 4 * n + m + 1 by omega, t4] at t1
    have R' : RegsAre ((rs.set 12 (rs.getD 12 0 + 4)).set 0 ((rs.set 12 (rs.getD 12 0 + 4)).getD 0 0 - 1)) o size := (R.set (by decide) (by decide)).set (by decide) (by decide)
    have r0' : ((rs.set 12 (rs.getD 12 0 + 4)).set 0 ((rs.set 12 (rs.getD 12 0 + 4)).getD 0 0 - 1)).getD 0 0 = (n : Int) := by
      rw [getD_hit (by rw [List.length_set]; omega), getD_miss (by decide), r0]; omega
    have r12' : ((rs.set 12 (rs.getD 12 0 + 4)).set 0 ((rs.set 12 (rs.getD 12 0 + 4)).getD 0 0 - 1)).getD 12 0 = o - 8 - 4 * q + 4 * ((i + 1 : Nat) : Int) := by
      rw [getD_miss (by decide), getD_hit (by omega), r12]; omega
    have r10' : ((rs.set 12 (rs.getD 12 0 + 4)).set 0 ((rs.set 12 (rs.getD 12 0 + 4)).getD 0 0 - 1)).getD 10 0 = 0 := by
      rw [getD_miss (by decide), getD_miss (by decide)]; exact r10
    rw [r0'] at t1
    cases n with
    | zero =>
      refine ⟨true, _, _, ?_, C', R'⟩
      rw [t1]
      rw [show 4 * 0 + m = m by omega]
      rfl
    | succ n =>
      have hd : decide (((n + 1 : Nat) : Int) = 0) = false := by simp; omega
      rw [hd] at t1
      obtain ⟨z', rs', c', h1, h2, h3⟩ := run_loop (is := is) (last := last) hq h7 h8 h9 h10 hl n (i + 1) m false _ _ (by omega) C' R' r10' r12' r0'
      refine ⟨z', rs', c', ?_, by rw [show i + (n + 1 + 1) = i + 1 + (n + 1) by omega]; exact h2, h3⟩
      rw [t1]
      exact h1
theorem run_zero {is : List Ins} {o q size : Int} {pre post : List Ins} (h0 : 0 ≤ q) (hq : q ≤ 9) (hp : pre.length = 4) (his : is = pre ++ (zrows (0 - 8 - 4 * q) q.toNat ++ post)) {last : Int} (hl : last = ((4 + (zrows (0 - 8 - 4 * q) q.toNat).length : Nat) : Int)) (z : Bool) (rs : List Int) (c : List (Int × Int)) (C : CellsAre c o q 0) (R : RegsAre rs o size) :
    ∃ n z' rs' c', n ≤ 50 ∧ runI is last n ⟨4, z, rs, c⟩ = some ⟨last, z', rs', c'⟩ ∧ CellsAre c' o q q.toNat ∧ RegsAre rs' o size := by
  obtain ⟨k, rfl⟩ := Int.eq_ofNat_of_zero_le h0
  have hk : k ≤ 9 := by omega
  rw [Int.toNat_natCast] at *
  have at' : ∀ (j : Nat) (x : Ins), (zrows (0 - 8 - 4 * (k : Int)) k)[j]? = some x → is[4 + j]? = some x := fun j x hx => by
    have hj := (List.getElem?_eq_some_iff.mp hx).1
    rw [his, List.getElem?_append_right (by omega), List.getElem?_append_left (by omega), hp, show 4 + j - 4 = j by omega]
    exact hx
  have hc : k = 0 ∨ (1 ≤ k ∧ k ≤ 4) ∨ 5 ≤ k := by omega
  rcases hc with rfl | ⟨h1, h4⟩ | h5
  · refine ⟨0, z, rs, c, by omega, ?_, C, R⟩
    subst hl
    exact runI_end rfl
  · have e : zrows (0 - 8 - 4 * (k : Int)) k = .movi 10 0 :: zstrs (0 - 8 - 4 * (k : Int)) k 0 := by unfold zrows; rw [if_neg (by omega), if_pos h4]
    rw [e] at at' hl
    rw [List.length_cons, zstrs_length] at hl
    have R' : RegsAre (rs.set 10 0) o size := R.set (by decide) (by decide)
    have L := R.len
    obtain ⟨c', a1, a2⟩ := run_strs (is := is) (last := last) hq R' (getD_hit (by omega)) k 0 5 0 (decide ((rs.set 10 0).getD 10 0 = 0)) c (fun j hj => by
      have := at' (j + 1) (.str 10 11 (0 - 8 - 4 * (k : Int) + 4 * (0 + (j : Int)))) (by rw [List.getElem?_cons_succ]; exact zstrs_at _ k 0 j hj)
      rw [show 5 + j = 4 + (j + 1) by omega, this]
      exact congrArg (fun t => some (Ins.str 10 11 t)) (by omega)) (by omega) C (by omega)
    refine ⟨k + 1, decide ((rs.set 10 0).getD 10 0 = 0), _, c', by omega, ?_, by rw [Nat.zero_add] at a2; exact a2, R'⟩
    rw [runI_step (i := .movi 10 0) (s' := ⟨5, decide ((rs.set 10 0).getD 10 0 = 0), rs.set 10 0, c⟩) (by dsimp only; omega) (by dsimp only; decide) (at' 0 _ rfl) rfl]
    rw [Nat.add_zero] at a1
    rw [show (5 : Int) = ((5 : Nat) : Int) by rfl, a1, show ((5 + k : Nat) : Int) = last by omega]
    exact runI_end rfl
  · have e := zrows_many (off := 0 - 8 - 4 * (k : Int)) h5
    rw [e] at at' hl
    have hl' : last = 11 := hl
    have L := R.len
    subst hl'
    obtain ⟨z', rs', c', a1, a2, a3⟩ := run_loop (is := is) (last := 11) (o := o) (q := (k : Int)) (size := size) hq (at' 3 _ rfl) (at' 4 _ rfl) (at' 5 _ rfl) (at' 6 _ rfl) (by decide) (k - 1) 0 0 (decide (((((rs.set 10 0).set 12 ((rs.set 10 0).getD 11 0 + (0 - 8 - 4 * (k : Int))))).set 0 (k : Int)).getD 0 0 = 0)) (((rs.set 10 0).set 12 ((rs.set 10 0).getD 11 0 + (0 - 8 - 4 * (k : Int)))).set 0 (k : Int)) c
      (by omega) C (((R.set (by decide) (by decide)).set (by decide) (by decide)).set (by decide) (by decide)) (by rw [getD_miss (by decide), getD_miss (by decide), getD_hit (by omega)])
      (by rw [getD_miss (by decide), getD_hit (by rw [List.length_set]; omega), getD_miss (by decide), R.r11]; omega) (by rw [getD_hit (by simp only [List.length_set]; omega)]; omega)
    refine ⟨4 * (k - 1 + 1) + 0 + 1 + 1 + 1, z', rs', c', by omega, ?_, by rw [show 0 + (k - 1 + 1) = k by omega] at a2; exact a2, a3⟩
    rw [runI_step (i := .movi 10 0) (s' := ⟨5, decide ((rs.set 10 0).getD 10 0 = 0), rs.set 10 0, c⟩) (by dsimp only; decide) (by dsimp only; decide) (at' 0 _ rfl) rfl]
    rw [runI_step (i := .addi 12 11 (0 - 8 - 4 * (k : Int))) (s' := ⟨6, decide (((rs.set 10 0).set 12 ((rs.set 10 0).getD 11 0 + (0 - 8 - 4 * (k : Int)))).getD 12 0 = 0), (rs.set 10 0).set 12 ((rs.set 10 0).getD 11 0 + (0 - 8 - 4 * (k : Int))), c⟩) (by dsimp only; decide) (by dsimp only; decide) (at' 1 _ rfl) rfl]
    rw [runI_step (i := .movi 0 (k : Int)) (s' := ⟨7, decide (((((rs.set 10 0).set 12 ((rs.set 10 0).getD 11 0 + (0 - 8 - 4 * (k : Int))))).set 0 (k : Int)).getD 0 0 = 0), (((rs.set 10 0).set 12 ((rs.set 10 0).getD 11 0 + (0 - 8 - 4 * (k : Int))))).set 0 (k : Int), c⟩) (by dsimp only; decide) (by dsimp only; decide) (at' 2 _ rfl) rfl]
    rw [Nat.add_zero] at a1
    rw [a1]
    exact runI_end rfl
/-- the registers that the law lays -/
def regs0 (o : Int) : List Int := [50, 51, 52, 53, 54, 55, 56, 57, 58, 59, 60, 8888, 62, 63, o, 100000]
def progI (q size : Int) : List Ins := [.str 15 14 (-4), .str 11 14 (-8), .mov 11 14] ++ ([.subi 14 14 size] ++ (zrows (0 - 8 - 4 * q) q.toNat ++ [.mov 14 11, .ldr 15 14 (-4), .ldr 11 14 (-8), .br 15]))
/-- what the law asks of the two runs -/
structure Runs (q size o mid : Int) (fin1 fin : Mach) : Prop where
  I1 : Inv (progI q size) mid fin1 0 false 0 (regs0 o) (cellsN o 46)
  l1 : fin1.rs.length = 16
  I2 : Inv (progI q size) 100000 fin mid false 0 (fin1.rs.set 0 31) fin1.c
  l2 : fin.rs.length = 16
  e14 : fin.rs.getD 14 0 = o
  e11 : fin.rs.getD 11 0 = 8888
  e0 : fin.rs.getD 0 0 = 31
  a14 : fin1.rs.getD 14 0 = o - size
  a11 : fin1.rs.getD 11 0 = o
  h4 : kdfHas fin1.c (o - 4) = true
  v4 : kdfLook fin1.c (o - 4) 0 = 100000
  h8 : kdfHas fin1.c (o - 8) = true
  v8 : kdfLook fin1.c (o - 8) 0 = 8888
  len : fin1.c.length = 46
  spot : ∀ i : Nat, i < 46 → kdfHas fin1.c (o - 160 + (i : Int) * 4) = true ∧ kdfHas (cellsN o 46) (o - 160 + (i : Int) * 4) = true ∧ (o - 160 + (i : Int) * 4 < o - 8 - 4 * q ∨ o - 8 ≤ o - 160 + (i : Int) * 4 ∨ kdfLook fin1.c (o - 160 + (i : Int) * 4) 0 = 0) ∧
      ((o - 8 - 4 * q ≤ o - 160 + (i : Int) * 4 ∧ o - 160 + (i : Int) * 4 < o - 8) ∨ o - 160 + (i : Int) * 4 = o - 4 ∨ o - 160 + (i : Int) * 4 = o - 8 ∨ kdfLook fin1.c (o - 160 + (i : Int) * 4) 0 = kdfLook (cellsN o 46) (o - 160 + (i : Int) * 4) 0)
theorem law_runs {q size o : Int} (h0 : 0 ≤ q) (hq : q ≤ 9) : ∃ fin1 fin, Runs q size o ((4 + (zrows (0 - 8 - 4 * q) q.toNat).length : Nat) : Int) fin1 fin := by
  have hm : ∃ mid : Int, mid = ((4 + (zrows (0 - 8 - 4 * q) q.toNat).length : Nat) : Int) := ⟨_, rfl⟩
  obtain ⟨mid, hmid⟩ := hm
  rw [← hmid]
  have hmid4 : 4 ≤ mid := by omega
  have hz : (zrows (0 - 8 - 4 * q) q.toNat).length ≤ 7 := by
    have : q.toNat = 0 ∨ q.toNat = 1 ∨ q.toNat = 2 ∨ q.toNat = 3 ∨ q.toNat = 4 ∨ 5 ≤ q.toNat := by omega
    rcases this with e | e | e | e | e | e
    · rw [e]; exact Nat.le_of_ble_eq_true rfl
    · rw [e]; exact Nat.le_of_ble_eq_true rfl
    · rw [e]; exact Nat.le_of_ble_eq_true rfl
    · rw [e]; exact Nat.le_of_ble_eq_true rfl
    · rw [e]; exact Nat.le_of_ble_eq_true rfl
    · rw [zrows_many e]; exact Nat.le_of_ble_eq_true rfl
  have C0 := cells_start (o := o) h0
  have R0 : RegsAre (((regs0 o).set 11 o).set 14 (o - size)) o size := ⟨rfl, rfl, rfl⟩
  obtain ⟨n, z', rs', c', hn, hr, C, R⟩ := run_zero (is := progI q size) (pre := [.str 15 14 (-4), .str 11 14 (-8), .mov 11 14, .subi 14 14 size]) (post := [.mov 14 11, .ldr 15 14 (-4), .ldr 11 14 (-8), .br 15]) h0 hq rfl rfl hmid
    (decide ((((regs0 o).set 11 o).set 14 (o - size)).getD 14 0 = 0)) _ _ C0 R0
  have L := R.len
  have at1 : ∀ (j : Nat) (x : Ins), ([Ins.mov 14 11, .ldr 15 14 (-4), .ldr 11 14 (-8), .br 15])[j]? = some x → (progI q size)[(mid + (j : Int)).toNat]? = some x := fun j x hx => by
    rw [hmid, show (((4 + (zrows (0 - 8 - 4 * q) q.toNat).length : Nat) : Int) + (j : Int)).toNat = 4 + ((zrows (0 - 8 - 4 * q) q.toNat).length + j) by omega]
    show ([Ins.str 15 14 (-4), .str 11 14 (-8), .mov 11 14, .subi 14 14 size] ++ (zrows (0 - 8 - 4 * q) q.toNat ++ [.mov 14 11, .ldr 15 14 (-4), .ldr 11 14 (-8), .br 15]))[4 + ((zrows (0 - 8 - 4 * q) q.toNat).length + j)]? = some x
    rw [List.getElem?_append_right (by simp), List.getElem?_append_right (by simp)]
    rw [← hx]
    congr 1
    simp only [List.length_cons, List.length_nil]
    omega
  have b14 : (rs'.set 0 31).set 14 ((rs'.set 0 31).getD 11 0) = (rs'.set 0 31).set 14 o := by rw [getD_miss (by decide), R.r11]
  have k4 : ∀ d, kdfLook c' (o + -4) d = 100000 := fun d => C.link d
  have k8 : ∀ d, kdfLook c' (o + -8) d = 8888 := fun d => C.fp d
  refine ⟨⟨mid, z', rs', c'⟩, ⟨100000, decide (((rs'.set 0 31).set 14 o).getD 14 0 = 0), (((rs'.set 0 31).set 14 o).set 15 100000).set 11 8888, c'⟩, ⟨by omega, rfl, by rw [cellsN_length]; decide, 4 + n, by omega, ?_⟩, L, ⟨by omega, by rw [List.length_set]; exact L, by rw [C.len]; decide, 4, by omega, ?_⟩, by simp only [List.length_set]; exact L, ?_, ?_, ?_, R.r14, R.r11, C.hasAt 39 (by decide) (by omega), C.link 0, C.hasAt 38 (by decide) (by omega), C.fp 0, C.len, fun i hi => C.spot (by omega) i hi⟩
  · have h39 : kdfHas (cellsN o 46) (o + -4) = true := by have := cellsN_has (o := o) (n := 46) (i := 39) (by decide); rwa [show o - 160 + ((39 : Nat) : Int) * 4 = o + -4 by omega] at this
    have h38 : kdfHas (cellsN o 46) (o + -8) = true := by have := cellsN_has (o := o) (n := 46) (i := 38) (by decide); rwa [show o - 160 + ((38 : Nat) : Int) * 4 = o + -8 by omega] at this
    rw [show 4 + n = n + 1 + 1 + 1 + 1 by omega]
    rw [runI_step (i := .str 15 14 (-4)) (s' := ⟨1, false, regs0 o, kdfPut (cellsN o 46) (o + -4) 100000⟩) (by dsimp only; omega) (by dsimp only; decide) rfl (stp_str (a := 15) (b := 14) (k := -4) (here := 0) (zero := false) (rs := regs0 o) rfl rfl h39)]
    rw [runI_step (i := .str 11 14 (-8)) (s' := ⟨2, false, regs0 o, kdfPut (kdfPut (cellsN o 46) (o + -4) 100000) (o + -8) 8888⟩) (by dsimp only; omega) (by dsimp only; decide) rfl (stp_str (a := 11) (b := 14) (k := -8) (here := 1) (zero := false) (rs := regs0 o) rfl rfl (has_put h38))]
    rw [runI_step (i := .mov 11 14) (s' := ⟨3, decide (((regs0 o).set 11 o).getD 11 0 = 0), (regs0 o).set 11 o, kdfPut (kdfPut (cellsN o 46) (o + -4) 100000) (o + -8) 8888⟩) (by dsimp only; omega) (by dsimp only; decide) rfl rfl]
    rw [runI_step (i := .subi 14 14 size) (s' := ⟨4, decide ((((regs0 o).set 11 o).set 14 (o - size)).getD 14 0 = 0), ((regs0 o).set 11 o).set 14 (o - size), kdfPut (kdfPut (cellsN o 46) (o + -4) 100000) (o + -8) 8888⟩) (by dsimp only; omega) (by dsimp only; decide) rfl rfl]
    exact hr
  · rw [runI_step (i := .mov 14 11) (s' := ⟨mid + 1, decide (((rs'.set 0 31).set 14 o).getD 14 0 = 0), (rs'.set 0 31).set 14 o, c'⟩) (by dsimp only; omega) (by dsimp only; omega) (by have := at1 0 _ rfl; simpa using this) (by rw [← b14]; rfl)]
    rw [runI_step (i := .ldr 15 14 (-4)) (s' := ⟨mid + 1 + 1, decide (((rs'.set 0 31).set 14 o).getD 14 0 = 0), ((rs'.set 0 31).set 14 o).set 15 100000, c'⟩) (by dsimp only; omega) (by dsimp only; omega) (at1 1 _ rfl) (by
      have : stp (.ldr 15 14 (-4)) ⟨mid + 1, decide (((rs'.set 0 31).set 14 o).getD 14 0 = 0), (rs'.set 0 31).set 14 o, c'⟩ = some ⟨mid + 1 + 1, decide (((rs'.set 0 31).set 14 o).getD 14 0 = 0), ((rs'.set 0 31).set 14 o).set 15 (kdfLook c' (((rs'.set 0 31).set 14 o).getD 14 0 + -4) (-5)), c'⟩ := rfl
      rw [this, show kdfLook c' (((rs'.set 0 31).set 14 o).getD 14 0 + -4) (-5) = 100000 by rw [getD_hit (by rw [List.length_set]; omega), k4]])]
    rw [runI_step (i := .ldr 11 14 (-8)) (s' := ⟨mid + 1 + 1 + 1, decide (((rs'.set 0 31).set 14 o).getD 14 0 = 0), (((rs'.set 0 31).set 14 o).set 15 100000).set 11 8888, c'⟩) (by dsimp only; omega) (by dsimp only; omega) (by dsimp only; rw [show mid + 1 + 1 = mid + ((2 : Nat) : Int) by omega]; exact at1 2 _ rfl) (by
      have : stp (.ldr 11 14 (-8)) ⟨mid + 1 + 1, decide (((rs'.set 0 31).set 14 o).getD 14 0 = 0), ((rs'.set 0 31).set 14 o).set 15 100000, c'⟩ = some ⟨mid + 1 + 1 + 1, decide (((rs'.set 0 31).set 14 o).getD 14 0 = 0), (((rs'.set 0 31).set 14 o).set 15 100000).set 11 (kdfLook c' ((((rs'.set 0 31).set 14 o).set 15 100000).getD 14 0 + -8) (-5)), c'⟩ := rfl
      rw [this, show kdfLook c' ((((rs'.set 0 31).set 14 o).set 15 100000).getD 14 0 + -8) (-5) = 8888 by rw [getD_miss (by decide), getD_hit (by rw [List.length_set]; omega), k8]])]
    rw [runI_step (i := .br 15) (s' := ⟨100000, decide (((rs'.set 0 31).set 14 o).getD 14 0 = 0), (((rs'.set 0 31).set 14 o).set 15 100000).set 11 8888, c'⟩) (by dsimp only; omega) (by dsimp only; omega) (by dsimp only; rw [show mid + 1 + 1 + 1 = mid + ((3 : Nat) : Int) by omega]; exact at1 3 _ rfl) (by
      have : stp (.br 15) ⟨mid + 1 + 1 + 1, decide (((rs'.set 0 31).set 14 o).getD 14 0 = 0), (((rs'.set 0 31).set 14 o).set 15 100000).set 11 8888, c'⟩ = some ⟨((((rs'.set 0 31).set 14 o).set 15 100000).set 11 8888).getD 15 0, decide (((rs'.set 0 31).set 14 o).getD 14 0 = 0), (((rs'.set 0 31).set 14 o).set 15 100000).set 11 8888, c'⟩ := rfl
      rw [this, show ((((rs'.set 0 31).set 14 o).set 15 100000).set 11 8888).getD 15 0 = 100000 by rw [getD_miss (by decide), getD_hit (by simp only [List.length_set]; omega)]])]
    exact runI_end rfl
  · rw [getD_miss (by decide), getD_miss (by decide), getD_hit (by rw [List.length_set]; omega)]
  · rw [getD_hit (by simp only [List.length_set]; omega)]
  · rw [getD_miss (by decide), getD_miss (by decide), getD_miss (by decide), getD_hit (by omega)]
theorem CompEnd.mono {h₀ : Heap} {L I C D : Addr} {m : Str → Option Value} {s₁ s₂ : Shared} {oI oC oD : Obj} {S : Led → Prop} {r r' : Value → Led → Prop} {y : Value} (h : LCg.CompEnd h₀ L m s₁ I oI C oC D oD S r y s₂) (hr : ∀ y n, r y n → r' y n) : LCg.CompEnd h₀ L m s₁ I oI C oC D oD S r' y s₂ := by
  obtain ⟨h', tk, n', e, F, N, o, q, z⟩ := h
  exact ⟨h', tk, n', e, F, N, o, q, hr _ _ z⟩
section
variable {prog : Program} {w : World} {A : Around} {s : Shared} {h₀ : Heap} {L : Addr} {m : Str → Option Value} {env : Env} {elt ct : Expr} {x : Str} {scope : Scope} {cl : List (Str × Addr)} {S : Led → Prop} {P : Nat → Value → Prop} {Fin : List Value → Led → Prop}
/-- a comprehension by what holds ahead of each turn -/
theorem comp_ind (J : Nat → Nat → List Value → Led → Prop) (done : ∀ i ys news, J 0 i ys news → Fin ys news)
    (turn : ∀ k i ys news, J (k + 1) i ys news → ∀ v I oI C oC D m₂ h tk (E' : Value → Shared → Prop), P i v → LCg.NsObj oC m₂ → m₂ x = some v → Fr h₀ L h m → News h₀ L h ((I, oI) :: (C, oC) :: (D, LCg.lst ys) :: news) → LCg.Off3 I C D news → ((@Ne Nat I C) ∧ (@Ne Nat I D) ∧ (@Ne Nat C D)) →
      wpAny (model prog w) A (eval elt (compEnvC scope cl C env)) (LCg.CompEnd h₀ L m { s with heap := h, toks := tk } I oI C oC D (LCg.lst ys) S (fun y news' => J k (i + 1) (ys ++ [y]) news')) E' { s with heap := h, toks := tk }) :
    ∀ k i ys news, J k i ys news → LCg.CompRest prog w A h₀ L m env elt x scope cl s S P Fin k i ys news
  | 0, i, ys, news, hJ => LCg.CompRest.zero (done i ys news hJ)
  | k + 1, i, ys, news, hJ => LCg.CompRest.succ fun v I oI C oC D m₂ h tk E' a1 a2 a3 a4 a5 a6 a7 =>
      wpAny_mono (turn k i ys news hJ v I oI C oC D m₂ h tk E' a1 a2 a3 a4 a5 a6 a7) (fun _ _ q => CompEnd.mono q fun _ _ j => comp_ind J done turn k _ _ _ j) fun _ _ q => q
/-- the same with a test -/
theorem compT_ind (J : Nat → Nat → List Value → Led → Prop) (done : ∀ i ys news, J 0 i ys news → Fin ys news)
    (turn : ∀ k i ys news, J (k + 1) i ys news → ∀ v I oI C oC D m₂ h tk (E' : Value → Shared → Prop), P i v → LCg.NsObj oC m₂ → m₂ x = some v → Fr h₀ L h m → News h₀ L h ((I, oI) :: (C, oC) :: (D, LCg.lst ys) :: news) → LCg.Off3 I C D news → ((@Ne Nat I C) ∧ (@Ne Nat I D) ∧ (@Ne Nat C D)) →
      wpAny (model prog w) A (isTrue ct (compEnvC scope cl C env) (eval ct (compEnvC scope cl C env))) (fun ok s' => if ok = true then
        wpAny (model prog w) A (eval elt (compEnvC scope cl C env)) (LCg.CompEnd h₀ L m { s with heap := h, toks := tk } I oI C oC D (LCg.lst ys) S (fun y news' => J k (i + 1) (ys ++ [y]) news')) E' s'
        else LCg.CompEnd h₀ L m { s with heap := h, toks := tk } I oI C oC D (LCg.lst ys) S (fun _ news' => J k (i + 1) ys news') Value.none s') E' { s with heap := h, toks := tk }) :
    ∀ k i ys news, J k i ys news → LCt.CompRestT prog w A h₀ L m env ct elt x scope cl s S P Fin k i ys news
  | 0, i, ys, news, hJ => LCt.CompRestT.zero (done i ys news hJ)
  | k + 1, i, ys, news, hJ => LCt.CompRestT.succ fun v I oI C oC D m₂ h tk E' a1 a2 a3 a4 a5 a6 a7 =>
      wpAny_mono (turn k i ys news hJ v I oI C oC D m₂ h tk E' a1 a2 a3 a4 a5 a6 a7) (fun b s' q => by
        cases b with
        | true => exact wpAny_mono (by simpa using q) (fun _ _ q => CompEnd.mono q fun _ _ j => compT_ind J done turn k _ _ _ j) fun _ _ q => q
        | false => exact CompEnd.mono (by simpa using q) fun _ _ j => compT_ind J done turn k _ _ _ j) fun _ _ q => q
end
theorem Sep.off1 {as : List Nat} {Rs l : Led} {D : Addr} (S : Sep as Rs) (h1 : adrs as.length l = as) (h2 : l.drop as.length = Rs) (o : LCg.Off1 D l) : Sep (D :: as) Rs := by
  have o' : ∀ p ∈ l, (p.1 : Nat) ≠ D := by
    clear h1 h2
    induction l with
    | nil => intro p hp; cases hp
    | cons q r ih => intro p hp; rcases List.mem_cons.mp hp with rfl | hp; exact o.1; exact ih o.2 p hp
  refine S.consT (fun m => ?_) fun p hp => o' p (List.mem_of_mem_drop (h2 ▸ hp))
  rw [adrs_split h1] at m
  obtain ⟨p, hp, e⟩ := List.mem_map.mp m
  exact o' p (List.mem_of_mem_take hp) e
theorem Sep.off3 {as : List Nat} {Rs l : Led} {I C D : Addr} (S : Sep as Rs) (h1 : adrs as.length l = as) (h2 : l.drop as.length = Rs) (o : LCg.Off3 I C D l) (n : (@Ne Nat I C) ∧ (@Ne Nat I D) ∧ (@Ne Nat C D)) : Sep (I :: C :: D :: as) Rs := by
  have m3 := LCg.Off3.mem o
  have inA : ∀ a ∈ as, ∃ p ∈ l, (p.1 : Nat) = a := fun a ha => by
    rw [adrs_split h1] at ha
    obtain ⟨p, hp, e⟩ := List.mem_map.mp ha
    exact ⟨p, List.mem_of_mem_take hp, e⟩
  have inR : ∀ p ∈ Rs, p ∈ l := fun p hp => List.mem_of_mem_drop (h2 ▸ hp)
  have S1 : Sep (D :: as) Rs := S.consT (fun m => by obtain ⟨p, hp, e⟩ := inA D m; exact (m3 p hp).2.2 e) fun p hp => (m3 p (inR p hp)).2.2
  have S2 : Sep (C :: D :: as) Rs := S1.consT (fun m => by
    rcases List.mem_cons.mp m with e | m
    · exact n.2.2 e
    · obtain ⟨p, hp, e⟩ := inA C m; exact (m3 p hp).2.1 e) fun p hp => (m3 p (inR p hp)).2.1
  exact S2.consT (fun m => by
    rcases List.mem_cons.mp m with e | m
    · exact n.1 e
    rcases List.mem_cons.mp m with e | m
    · exact n.2.1 e
    · obtain ⟨p, hp, e⟩ := inA I m; exact (m3 p hp).1 e) fun p hp => (m3 p (inR p hp)).1
theorem Sep.drop2 {a b : Nat} {as : List Nat} {Rs : Led} (S : Sep (a :: b :: as) Rs) : Sep (a :: as) Rs :=
  ⟨S.1.sublist ((List.sublist_cons_self b as).cons_cons a), fun p hp m => S.2 p hp (by rcases List.mem_cons.mp m with e | m; exact e ▸ .head _; exact .tail _ (.tail _ m))⟩
theorem off3_front {I C D : Nat} {as : List Nat} {Rs l : Led} (S : Sep (I :: C :: D :: as) Rs) (h1 : adrs as.length l = as) (h2 : l.drop as.length = Rs) : LCg.Off3 I C D l := LCg.Off3.of fun p hp =>
  ⟨Sep.head_ne S.drop2.drop2 h1 h2 p hp, Sep.head_ne S.tailS.drop2 h1 h2 p hp, Sep.head_ne S.tailS.tailS h1 h2 p hp⟩
/-- a choice of list items, in any order -/
inductive Out {α : Type} (p : α) : List α → List α → Prop
  | head {l} : Out p (p :: l) l
  | tail {q l l'} : Out p l l' → Out p (q :: l) (q :: l')
inductive Pk {α : Type} : List α → List α → Prop
  | nil {l} : Pk l []
  | cons {p l l' r} : Out p l l' → Pk l' r → Pk l (p :: r)
theorem Out.perm {α : Type} {p : α} {l l' : List α} (h : Out p l l') : l.Perm (p :: l') := by
  induction h with
  | head => exact .refl _
  | tail _ ih => exact (ih.cons _).trans (List.Perm.swap ..)
theorem Pk.sub {α : Type} {l r : List α} (h : Pk l r) : ∃ z, l.Perm (r ++ z) := by
  induction h with
  | nil => exact ⟨_, .refl _⟩
  | cons o _ ih => obtain ⟨z, hz⟩ := ih; exact ⟨z, o.perm.trans (hz.cons _)⟩
theorem Sep.pk {as bs : List Nat} {Rs : Led} (S : Sep as Rs) (h : Pk as bs) : Sep bs Rs := by
  obtain ⟨z, hz⟩ := h.sub
  exact ⟨(List.nodup_append.mp (hz.nodup_iff.mp S.1)).1, fun p hp m => S.2 p hp (hz.mem_iff.mpr (List.mem_append_left _ m))⟩
theorem int_at {su : List Value} {sl : List Int} (h : IntsAre su sl) : ∀ {i : Nat} {v : Value}, su.toArray[i]? = some v → ∃ a t, v = .int a t ∧ a ∈ sl := by
  induction h with
  | nil => intro i v h; simp at h
  | cons a t _ ih =>
    intro i v h
    cases i with
    | zero => exact ⟨a, t, by simpa using h.symm, .head _⟩
    | succ i => obtain ⟨b, u, e, m⟩ := ih (i := i) (v := v) (by simpa using h); exact ⟨b, u, e, .tail _ m⟩
theorem ints_line {su : List Value} {sl : List Int} (h : IntsAre su sl) (hl : sl.length ≤ 3) : su.toArray.size ≤ sizeLine := by
  rw [List.size_toArray, h.length, sizeLine_eq]; omega
theorem upd_own {ca : Addr} {o : Obj} {as : List Nat} {Ts rest own : Led} (S : Sep (ca :: as) Ts) (ho : OwnOff own (ca :: rest.map (·.1))) (h1 : adrs as.length rest = as) (h2 : rest.drop as.length = Ts) : UpdF ca o ((ca, o) :: (rest ++ own)) (fun o' => (ca, o') :: (rest ++ own)) :=
  UpdF.head fun p hp => by
    rcases List.mem_append.mp hp with hp | hp
    · exact Sep.head_ne S h1 h2 p hp
    · exact OwnOff.ne ho (.head _) p hp
theorem News.tlk {h₀ h : Heap} {L : Addr} {P Ts rest : Led} (k : Nat) (N : News h₀ L h ((P ++ Ts) ++ rest)) : News h₀ L h (P ++ (rest.take k ++ (Ts ++ rest.drop k))) := fun p hp => N p (by
  simp only [List.mem_append] at hp ⊢
  rcases hp with h | h | h | h
  · exact .inl (.inl h)
  · exact .inr (List.mem_of_mem_take h)
  · exact .inl (.inr h)
  · exact .inr (List.mem_of_mem_drop h))
theorem ints_snoc {ys : List Value} {sl : List Int} {a : Int} {t : Tok} (h : IntsAre ys sl) : IntsAre (ys ++ [.int a t]) (sl ++ [a]) := by
  induction h with
  | nil => exact .cons _ _ .nil
  | cons b u _ ih => exact .cons b u ih
def lawStmt : Stmt := PySem.Challenge.pw_pq0756_01.main.body.getLastD (.Pass ⟨0, 0, 0, 0⟩)
def lawBody : List Stmt := match lawStmt with
  | .FunctionDef _ _ b _ _ _ _ _ _ _ => b
  | _ => []
def lawScope : Scope := match lawStmt with
  | .FunctionDef _ _ _ _ _ _ sc _ _ _ => sc
  | _ => { kind := .function, names := [], isGenerator := false, isCoroutine := false }
abbrev lawEnv (L fa : Addr) (cd : Value) : Env := envOfC (Str.ofString "law") lawScope L fa cd
example : lawBody.length = 28 := by rfl
theorem RowsIn.prog {T rest : List (Addr × Obj)} {vs : List Value} {is : List Ins} {g : Heap} {R : Addr} {n : Nat} (h : RowsIn T vs is) (hs : ∀ p ∈ T, p ∈ rest) (hl : (R, listOf vs.toArray n) ∈ rest) (hg : ∀ p ∈ rest, g.get? p.1 = some p.2) : ProgAt g R vs is := by
  refine ⟨⟨_, hg _ hl, rfl, _, rfl⟩, h.length, fun i x hx => ?_⟩
  obtain ⟨a, ws, h1, h2, h3⟩ := h.at i x hx
  exact ⟨a, ws, h1, ⟨_, hg _ (hs _ h2), rfl, _, rfl⟩, h3⟩
theorem frOf {h₀ h : Heap} {L : Addr} {m : Str → Option Value} {ps : List (Str × Value)} (F : Fr h₀ L h m) (hk : ∀ p ∈ ps, m p.1 = some p.2) : Fr h₀ L h (kstB m ps) := by
  have e : kstB m ps = m := funext fun z => kstB_eq hk fun _ => rfl
  rw [e]
  exact F
/-- an address that differs from all of a list: omega does not see it -/
def OffL (D : Nat) : List Nat → Prop
  | [] => True
  | a :: r => a ≠ D ∧ OffL D r
theorem OffL.ne {D a : Nat} : ∀ {l : List Nat}, OffL D l → a ∈ l → a ≠ D
  | [], _, h => nomatch h
  | b :: l, x, h => by
    rcases List.mem_cons.mp h with rfl | h
    · exact x.1
    · exact OffL.ne x.2 h
theorem offL_of {D : Addr} : ∀ {l : List (Addr × Obj)}, LCg.Off1 D l → OffL D (l.map (·.1))
  | [], _ => True.intro
  | _ :: _, x => ⟨x.1, offL_of x.2⟩
theorem size46 (o : Int) : Builtin.Range.rangeSize (o - 160) (o + 24) 4 = (46 : Nat) := by
  unfold Builtin.Range.rangeSize
  simp only [show (4 : Int) > 0 by decide, if_true]
  split <;> omega
theorem small46 {o : Int} (h1 : 0 ≤ o) (h2 : o ≤ 100000) : Builtin.Range.small (o - 160) (o + 24) 4 = true := by
  unfold Builtin.Range.small
  rw [size46]
  simp only [Builtin.Range.rangeFitsLong, Bool.and_eq_true, Bool.or_eq_true, decide_eq_true_eq, beq_iff_eq, show (4 : Int) > 0 by decide, if_true]
  refine ⟨?_, ?_⟩ <;> omega
section
variable {prog : Program} {w : World} {A : Around} {E : Value → Shared → Prop} {s : Shared} {env : Env} {h₀ : Heap} {x : Str} {body : List Stmt} {Q : Flow → Shared → Prop}
/-- a loop over a range of any step, by what holds between its turns -/
theorem range_inv {r : Addr} {a b c : Int} {t u v : Tok} {n : Nat} {m₀ : Str → Option Value} {news : List (Addr × Obj)} (J : Nat → (Str → Option Value) → List (Addr × Obj) → Prop)
    (hh : A.handled = none) (hr : IsRange s.heap r a b c t u v) (hs : Builtin.Range.small a b c = true) (hn : Builtin.Range.rangeSize a b c = (n : Int)) (F : Fr h₀ env.locals s.heap m₀) (N : News h₀ env.locals s.heap news) (hj : J 0 m₀ news)
    (turn : ∀ (i : Nat) k t m₁ nx h tk own, i < n → k = a + (i : Int) * c → nx.map (·.1) = news.map (·.1) → OwnOff own (news.map (·.1)) → J i m₁ nx → Fr h₀ env.locals h (fun y => if y = x then some (.int k t) else m₁ y) → News h₀ env.locals h (nx ++ own) →
      wpAny (model prog w) A (execs body env) (InvPostN h₀ env.locals (J (i + 1)) own (news.map (·.1)) { s with heap := h, toks := tk } Q) E { s with heap := h, toks := tk })
    (done : ∀ m₁ nx h tk, J n m₁ nx → Fr h₀ env.locals h m₁ → News h₀ env.locals h nx → Q .next { s with heap := h, toks := tk }) :
    wpAny (model prog w) A (pyIter (.ref r)) (fun it s₂ => LoopAtV prog w A h₀ env x body Q E it s₂) E s := by
  refine wpAny_pyIter_range hr hs ?_
  have W := (Walks.range (prog := prog) (w := w) (A := A) hh s.heap.objs.size a c n).bound
  have fresh : ∀ p ∈ news, p.1 ∉ [s.heap.objs.size] := fun p hp hI => absurd (Heap.lt_size (N p hp).1) ((List.mem_singleton.mp hI) ▸ Nat.lt_irrefl _)
  refine loop_invN J W (fun hm => absurd F.ns.lt ((List.mem_singleton.mp hm) ▸ Nat.lt_irrefl _)) (fun b hb => ?_) fresh fresh ?_ (F.push _) (fun p hp => ⟨Heap.get?_push_of_some _ (N p hp).1, (N p hp).2⟩) hj ?_ fun m₁ nx h tk q F₁ N₁ => done m₁ nx h tk q F₁ N₁
  · rw [List.mem_singleton.mp hb]
    exact next_is_new F
  · show IsRangeIter _ _ _ _ _
    rw [hn]
    simpa using Heap.get?_push_size _ rfl
  · rintro i v' m₁ nx h tk own hi ⟨_, t', rfl⟩ ha ho hJ F₁ N₁
    exact turn i _ t' m₁ nx h tk own hi rfl ha ho hJ F₁ N₁
end
def SrchJ (x : Str) (m₀ : Str → Option Value) (news : List (Addr × Obj)) (m : Str → Option Value) (nx : List (Addr × Obj)) : Prop := nx = news ∧ ∀ z, z ≠ x → m z = m₀ z
section
variable {prog : Program} {w : World} {A : Around} {E : Value → Shared → Prop} {s : Shared} {env : Env} {h₀ : Heap} {x : Str} {body : List Stmt} {Q : Flow → Shared → Prop}
/-- a loop over a range that keeps everything but its own name -/
theorem range_search {r : Addr} {a b c : Int} {t u v : Tok} {n : Nat} {m₀ : Str → Option Value} {news : List (Addr × Obj)}
    (hh : A.handled = none) (hr : IsRange s.heap r a b c t u v) (hs : Builtin.Range.small a b c = true) (hn : Builtin.Range.rangeSize a b c = (n : Int)) (F : Fr h₀ env.locals s.heap m₀) (N : News h₀ env.locals s.heap news)
    (turn : ∀ (i : Nat) k t h tk own, i < n → k = a + (i : Int) * c → OwnOff own (news.map (·.1)) → Fr h₀ env.locals h (fun y => if y = x then some (.int k t) else m₀ y) → News h₀ env.locals h (news ++ own) →
      wpAny (model prog w) A (execs body env) (InvPostN h₀ env.locals (SrchJ x m₀ news) own (news.map (·.1)) { s with heap := h, toks := tk } Q) E { s with heap := h, toks := tk })
    (done : ∀ u h tk, Fr h₀ env.locals h (fun y => if y = x then u else m₀ y) → News h₀ env.locals h news → Q .next { s with heap := h, toks := tk }) :
    wpAny (model prog w) A (pyIter (.ref r)) (fun it s₂ => LoopAtV prog w A h₀ env x body Q E it s₂) E s := by
  refine range_inv (fun _ => SrchJ x m₀ news) hh hr hs hn F N ⟨rfl, fun _ _ => rfl⟩ ?_ ?_
  · rintro i k t' m₁ nx h tk own hi hk _ ho ⟨rfl, hm⟩ F₁ N₁
    rw [off_same hm] at F₁
    exact turn i k t' h tk own hi hk ho F₁ N₁
  · rintro m₁ nx h tk ⟨rfl, hm⟩ F₁ N₁
    refine done (m₁ x) h tk ?_ N₁
    have e : (fun y => if y = x then m₁ x else m₀ y) = m₁ := by
      funext y
      by_cases q : y = x
      · rw [if_pos q, q]
      · rw [if_neg q, hm y q]
    rw [e]
    exact F₁
theorem srch_end {L : Addr} {m₀ m' : Str → Option Value} {news own news' : List (Addr × Obj)} {s₁ : Shared} {h' : Heap} {tk : Nat} (F : Fr h₀ L h' m') (N : News h₀ L h' news') (hn : ∀ p ∈ news, p ∈ news') (ho : ∀ p ∈ own, p ∈ news') (hr : ∀ z, z ≠ x → m' z = m₀ z) :
    InvEndN h₀ L (SrchJ x m₀ news) own (news.map (·.1)) s₁ { s₁ with heap := h', toks := tk } := InvEndN.intro F N ⟨rfl, hr⟩ rfl hn ho
end
/-- what the law's last loop asks of a spot -/
def SpotOk (osp q : Int) (c cb : List (Int × Int)) (v : Int) : Prop :=
  kdfHas c v = true ∧ kdfHas cb v = true ∧ (v < osp - 8 - 4 * q ∨ osp - 8 ≤ v ∨ kdfLook c v 0 = 0) ∧ ((osp - 8 - 4 * q ≤ v ∧ v < osp - 8) ∨ v = osp - 4 ∨ v = osp - 8 ∨ kdfLook c v 0 = kdfLook cb v 0)
/-- what holds between the turns of the loop that lays the cells -/
def FillJ (w : World) (x : Str) (m₀ : Str → Option Value) (ca : Addr) (rest : List (Addr × Obj)) (c : List (Int × Int)) (m : Str → Option Value) (nx : List (Addr × Obj)) : Prop :=
  (∃ o kvs, nx = (ca, o) :: rest ∧ o.IsDictOf (PySem.intKind PG w) kvs ∧ PyProof.V.FlatPairs PyData.int kvs (kdfD c)) ∧ ∀ z, z ≠ x → m z = m₀ z
section
variable {w : World} {A : Around} {E : Value → Shared → Prop} {s : Shared} {env : Env} {h₀ : Heap} {x : Str} {body : List Stmt} {Q : Flow → Shared → Prop}
theorem range_fill {r ca : Addr} {osp : Int} {t u v : Tok} {m₀ : Str → Option Value} {o₀ : Obj} {kvs₀ : List (Int × Value)} {rest : List (Addr × Obj)}
    (hh : A.handled = none) (hr : IsRange s.heap r (osp - 160) (osp + 24) 4 t u v) (hs : 0 ≤ osp ∧ osp ≤ 100000) (F : Fr h₀ env.locals s.heap m₀) (N : News h₀ env.locals s.heap ((ca, o₀) :: rest))
    (hd : o₀.IsDictOf (PySem.intKind PG w) kvs₀) (hf : PyProof.V.FlatPairs PyData.int kvs₀ [])
    (turn : ∀ (i : Nat) k t o kvs h tk own, i < 46 → k = osp - 160 + (i : Int) * 4 → OwnOff own (ca :: rest.map (·.1)) → o.IsDictOf (PySem.intKind PG w) kvs → PyProof.V.FlatPairs PyData.int kvs (kdfD (cellsN osp i)) → (cellsN osp i).length ≤ 46 →
      Fr h₀ env.locals h (fun y => if y = x then some (.int k t) else m₀ y) → News h₀ env.locals h (((ca, o) :: rest) ++ own) →
      wpAny (model PG w) A (execs body env) (InvPostN h₀ env.locals (FillJ w x m₀ ca rest (kdfPut (cellsN osp i) k (7000 + k))) own (ca :: rest.map (·.1)) { s with heap := h, toks := tk } Q) E { s with heap := h, toks := tk })
    (done : ∀ u o kvs h tk, o.IsDictOf (PySem.intKind PG w) kvs → PyProof.V.FlatPairs PyData.int kvs (kdfD (cellsN osp 46)) → Fr h₀ env.locals h (fun y => if y = x then u else m₀ y) → News h₀ env.locals h ((ca, o) :: rest) → Q .next { s with heap := h, toks := tk }) :
    wpAny (model PG w) A (pyIter (.ref r)) (fun it s₂ => LoopAtV PG w A h₀ env x body Q E it s₂) E s := by
  refine range_inv (fun i => FillJ w x m₀ ca rest (cellsN osp i)) hh hr (small46 hs.1 hs.2) (size46 osp) F N ⟨⟨o₀, kvs₀, rfl, hd, hf⟩, fun _ _ => rfl⟩ ?_ ?_
  · rintro i k t' m₁ nx h tk own hi hk _ ho ⟨⟨o, kvs, rfl, hd', hf'⟩, hm⟩ F₁ N₁
    rw [off_same hm] at F₁
    have := turn i k t' o kvs h tk own hi hk ho hd' hf' (by rw [cellsN_length]; omega) F₁ N₁
    subst hk
    rw [cellsN_put] at this
    exact this
  · rintro m₁ nx h tk ⟨⟨o, kvs, rfl, hd', hf'⟩, hm⟩ F₁ N₁
    refine done (m₁ x) o kvs h tk hd' hf' ?_ N₁
    have e : (fun y => if y = x then m₁ x else m₀ y) = m₁ := by
      funext y
      by_cases q : y = x
      · rw [if_pos q, q]
      · rw [if_neg q, hm y q]
    rw [e]
    exact F₁
theorem fill_end {L ca : Addr} {m₀ m' : Str → Option Value} {o : Obj} {kvs : List (Int × Value)} {c : List (Int × Int)} {rest own news' : List (Addr × Obj)} {s₁ : Shared} {h' : Heap} {tk : Nat} (F : Fr h₀ L h' m') (N : News h₀ L h' news') (hn : ∀ p ∈ (ca, o) :: rest, p ∈ news')
    (hd : o.IsDictOf (PySem.intKind PG w) kvs) (hf : PyProof.V.FlatPairs PyData.int kvs (kdfD c)) (ho : ∀ p ∈ own, p ∈ news') (hr : ∀ z, z ≠ x → m' z = m₀ z) :
    InvEndN h₀ L (FillJ w x m₀ ca rest c) own (ca :: rest.map (·.1)) s₁ { s₁ with heap := h', toks := tk } := InvEndN.intro F N ⟨⟨o, kvs, rfl, hd, hf⟩, hr⟩ rfl hn ho
end
theorem cells_line (o : Int) (n : Nat) (h : n ≤ 1000) : (kdfD (cellsN o n)).length ≤ sizeLine := by rw [kdfD_length, cellsN_length, sizeLine_eq]; omega
theorem ints_base {ys : List Value} {f : Int → Int} {l : List Int} (h : IntsAre ys (List.map f l)) (e : List.map f l = [50, 51, 52, 53, 54, 55, 56, 57, 58, 59, 60, 61, 62, 63, 64, 65] := by rfl) : IntsAre ys [50, 51, 52, 53, 54, 55, 56, 57, 58, 59, 60, 61, 62, 63, 64, 65] := e ▸ h
theorem regs_eq (o : Int) : (([50, 51, 52, 53, 54, 55, 56, 57, 58, 59, 60, 61, 62, 63, 64, 65].set (Int.toNat 11) 8888).set (Int.toNat 14) o).set (Int.toNat 15) 100000 = regs0 o := rfl
theorem Runs.I1' {q size o mid : Int} {fin1 fin : Mach} (h : Runs q size o mid fin1 fin) : Inv (progI q size) mid fin1 0 false 0 ((([50, 51, 52, 53, 54, 55, 56, 57, 58, 59, 60, 61, 62, 63, 64, 65].set (Int.toNat 11) 8888).set (Int.toNat 14) o).set (Int.toNat 15) 100000) (cellsN o 46) := (regs_eq o).symm ▸ h.I1
theorem Runs.cb {q size o mid : Int} {fin1 fin : Mach} (h : Runs q size o mid fin1 fin) : (cellsN o 46).length = fin1.c.length := by rw [cellsN_length, h.len]
theorem Runs.cl {q size o mid : Int} {fin1 fin : Mach} (h : Runs q size o mid fin1 fin) : fin1.c.length ≤ 1000 := by rw [h.len]; decide
theorem runs_ex {q size o mid : Int} (h0 : 0 ≤ q) (hq : q ≤ 9) (hm : mid = ((4 + (zrows (0 - 8 - 4 * q) q.toNat).length : Nat) : Int)) : ∃ f : Mach × Mach, Runs q size o mid f.1 f.2 := by
  obtain ⟨fin1, fin, h⟩ := law_runs (q := q) (size := size) (o := o) h0 hq
  exact ⟨(fin1, fin), hm ▸ h⟩
theorem runs_pick {q size o mid : Int} (h0 : 0 ≤ q) (hq : q ≤ 9) (hm : mid = ((4 + (zrows (0 - 8 - 4 * q) q.toNat).length : Nat) : Int)) :
    Runs q size o mid (Classical.choose (runs_ex (size := size) (o := o) h0 hq hm)).1 (Classical.choose (runs_ex (size := size) (o := o) h0 hq hm)).2 := Classical.choose_spec (runs_ex (size := size) (o := o) h0 hq hm)
theorem prog_at {T : List (Addr × Obj)} {a0 a1 a2 q' rl : Addr} {zs ws : List Value} {q size sz : Int} {n : Nat} (h1 : RowsIn T [.ref a0, .ref a1, .ref a2] [.str 15 14 (-4), .str 11 14 (-8), .mov 11 14]) (h2 : RowsIn T [.ref q'] [.subi 14 14 sz]) (h3 : RowsIn T zs (zrows (0 - 8 - 4 * q) q.toNat)) (h4 : RowsIn T ws [.mov 14 11, .ldr 15 14 (-4), .ldr 11 14 (-8), .br 15]) (hs : sz = size) :
    ∀ g : Heap, (∀ p ∈ (rl, listOf (.ref a0 :: .ref a1 :: .ref a2 :: .ref q' :: (zs ++ ws)).toArray n) :: T, g.get? p.1 = some p.2) → ProgAt g rl (.ref a0 :: .ref a1 :: .ref a2 :: .ref q' :: (zs ++ ws)) (progI q size) := by
  subst hs
  intro g hg
  exact RowsIn.prog (h1.append (h2.append (h3.append h4))) (fun p hp => List.mem_cons_of_mem _ hp) (List.mem_cons_self ..) hg
theorem prog_ts {Ta Tb : Led} {a0 a1 a2 q' rl : Addr} {zs ws : List Value} {q size sz : Int} {n : Nat} (h1 : RowsIn Ta [.ref a0, .ref a1, .ref a2] [.str 15 14 (-4), .str 11 14 (-8), .mov 11 14]) (h2 : RowsIn Tb [.ref q'] [.subi 14 14 sz]) (h3 : RowsIn Ta zs (zrows (0 - 8 - 4 * q) q.toNat)) (h4 : RowsIn Tb ws [.mov 14 11, .ldr 15 14 (-4), .ldr 11 14 (-8), .br 15]) (hs : sz = size) :
    ∀ g : Heap, g.get? rl = some (listOf (.ref a0 :: .ref a1 :: .ref a2 :: .ref q' :: (zs ++ ws)).toArray n) → (∀ p ∈ Tb ++ Ta, g.get? p.1 = some p.2) → ProgAt g rl (.ref a0 :: .ref a1 :: .ref a2 :: .ref q' :: (zs ++ ws)) (progI q size) :=
  fun g hl hg => prog_at (h1.mono fun _ h => List.mem_append_right _ h) (h2.mono fun _ h => List.mem_append_left _ h) (h3.mono fun _ h => List.mem_append_right _ h) (h4.mono fun _ h => List.mem_append_left _ h) hs g (List.forall_mem_cons.mpr ⟨hl, hg⟩)
theorem led_item {A : Around} {E : Value → Shared → Prop} {s : Shared} {w : World} {h₀ : Heap} {L : Addr} {news : List (Addr × Obj)} {D : Addr} {vs : Array Value} {n : Nat} {k : Int} {u : Tok} {v : Value} {Q : Value → Shared → Prop} {value slice : PySem.Expr}
    (N : News h₀ L s.heap news) (hm : (D, listOf vs n) ∈ news) (h0 : 0 ≤ k) (hhi : k < 2 ^ 63) (hx : vs[k.toNat]? = some v) (h : Q v s)
    (hs : subscripted slice false (.ref D) (.int k u) = operate [.ref D, .int k u] (getItem (.ref D) (.int k u)) := by with_unfolding_all rfl) :
    wpAny (model PG w) A (subscriptTail value slice (.ref D) (.int k u)) Q E s :=
  have hl : s.heap.IsList D vs := PySem.IsL.isList (n := n) (N _ hm).1
  tail_any hl.typeIs slot_list_getitem.lookup (wpAny_getItem_list hl h0 hhi hx h) hs
theorem i8_0 {a b c d e f g h : Value} : #[a, b, c, d, e, f, g, h][Int.toNat 0]? = some a := rfl
theorem i8_1 {a b c d e f g h : Value} : #[a, b, c, d, e, f, g, h][Int.toNat 1]? = some b := rfl
theorem i8_2 {a b c d e f g h : Value} : #[a, b, c, d, e, f, g, h][Int.toNat 2]? = some c := rfl
theorem i8_3 {a b c d e f g h : Value} : #[a, b, c, d, e, f, g, h][Int.toNat 3]? = some d := rfl
theorem i8_4 {a b c d e f g h : Value} : #[a, b, c, d, e, f, g, h][Int.toNat 4]? = some e := rfl
theorem sb_le {sl : List Int} {q a b : Int} (h : ∀ v ∈ sl, 8 + 4 * q < 0 - v ∧ 0 - v ≤ a) (hab : a ≤ b) : ∀ v ∈ sl, 8 + 4 * q < 0 - v ∧ 0 - v ≤ b := fun v hv => ⟨(h v hv).1, Int.le_trans (h v hv).2 hab⟩
theorem coderD_eq {es : List DictEntry} {ty b p ft : Addr} {low low' out : Int} (C : CoderD es ty b p ft low low out) (h : low = low') : CoderD es ty b p ft low' low' out := h ▸ C
theorem ln0 : ([] : List Value).length = 0 := rfl
theorem ln1 {a : Value} : ([] ++ [a]).length = 1 := rfl
theorem ln2 {a b : Value} : ([] ++ [a] ++ [b]).length = 2 := rfl
theorem ln3 {a b c : Value} : ([] ++ [a] ++ [b] ++ [c]).length = 3 := rfl
theorem isList_at {h g : Heap} {a : Addr} {vs : Array Value} (H : h.IsList a vs) (hk : ∀ o, h.get? a = some o → g.get? a = some o) : g.IsList a vs := H.at hk
theorem mid_eq {T : List (Addr × Obj)} {a b c d : Value} {zs : List Value} {is : List Ins} (h : RowsIn T zs is) : ((a :: b :: c :: d :: zs).length : Int) = ((4 + is.length : Nat) : Int) := by
  rw [List.length_cons, List.length_cons, List.length_cons, List.length_cons, h.length]; omega
theorem fm9 (a : Int) : Int.fmod a 10 ≤ 9 := by have := fmod_hi a (n := 10) (by decide); omega
theorem fm7lo (a : Int) : 4 ≤ 4 + Int.fmod a 7 := by have := fmod_lo a (n := 7) (by decide); omega
theorem fm7hi (a : Int) : 4 + Int.fmod a 7 ≤ 10 := by have := fmod_hi a (n := 7) (by decide); omega
theorem rows_n25 : True := by
  w_top off
  k_with_none
  k_with "setat" => first | exact SetAt.head | (apply SetAt.tail; walk_at "setat")
  k_with "setF" => first | exact SetF.head | (apply SetF.tail; walk_at "setF")
  k_with "upd" => k_dflt (exact upd_sep (by with_reducible assumption) (by walk_at "setat") (by exact rfl) (by exact rfl))
  k_with "updF" => first | k_dflt (exact updF_sep (by with_reducible assumption) (by walk_at "setF") (by exact rfl) (by exact rfl)) | walk_at "updF2"
  k_with "cut" => first | exact Cut.nil | (apply Cut.take; walk_at "cut") | (apply Cut.keep; walk_at "cut")
  k_with "sub" => first | exact Sub.nil | (apply Sub.take; walk_at "sub") | (apply Sub.keep; walk_at "sub")
  k_with "con in" => repeat' (first | exact List.forall_mem_nil _ | refine List.forall_mem_cons.mpr ⟨by k_mem, ?_⟩)
  k_with "execs cons" => (k_here; (try k_made); (try k_gentoks); (refine wpAny_execs_cons (s := Shared.mk _ (Shared.gens s) (Shared.drawn s) _ (Shared.os s)) ?_); (try dsimp only); (try k_fold))
  k_with "con fill" => ((have hfill : PySem.Challenge.rw_pq0756_01 = PySem.Challenge.rw_pq0756_01 ∧ _root_.Mine.hd.heap_39 = _root_.Mine.hd.heap_39 := by (k_fill; exact ⟨rfl, rfl⟩)); clear hfill)
  k_with "con enter" => (refine' enter_def (w := _) (by assumption) (by assumption) (by assumption) (by assumption) (by assumption) (by assumption) (by assumption) (by (simp only [recursionLimit]; omega)) (by k_is) (by k_is) (by first | exact BindsTo.of_eq rfl | (refine' binds_K (by (refine' Frag.In.keeps (by assumption) (by assumption))) (by exact rfl) (by k_is) (by exact rfl) (by exact rfl) (by exact rfl)) | fail "con_enter: no rule for these arguments") (by exact locs rfl) (by exact rfl) ?_ (by exact rfl) (by exact rfl) (by exact rfl) (by decide); k_whole; intro L' h' Q9 E9 F' N' S' hE9 hQ9; (dsimp only [adrs, List.length_cons, List.length_nil] at S'); (try dsimp only))
  k_with "newTuple" => (k_here; (with_reducible rename Sep _ _ => S9); k_dflt (refine' newTuple_S (by k_asm) (by k_asm) S9 (by exact rfl) (by exact rfl) ?_; k_whole); intro l' h' F' N' S' l4; (try clear S9); (try k_sweep))
  k_with "newList" => (k_here; (with_reducible rename Sep _ _ => S9); k_dflt (refine' newList_S (by k_asm) (by k_asm) S9 (by exact rfl) (by exact rfl) ?_; k_whole); intro l' h' F' N' S' l4; (try clear S9); (try k_sweep))
  k_with "call ref" => (k_here; (with_reducible show wpAny _ _ (call (Value.ref _) _ _) _ _ _); (with_reducible rename Sep _ _ => S9); k_dflt (refine' call_clsS (by k_asm) (by k_asm) (by k_asm) S9 (by exact rfl) (by exact rfl) (by k_is) (by k_is) (by k_is) ?_; k_whole; intro x' d' h' F' N' S' l8 l9; (clear S9); (try k_sweep); k_enter))
  k_with "eval Dict nil nil" => (k_here; (with_reducible rename Sep _ _ => S9); k_dflt (refine' newDict_S (by k_asm) (by k_asm) S9 (by exact rfl) (by exact rfl) (TopRead.nolimit (by k_asm)) ?_; k_whole); intro d' h' o' F' N' S' l4 lo' hi' fi'; (try clear S9); (try k_sweep))
  k_with "call type:list" => (k_here; (with_reducible show wpAny _ _ (call (Value.type "list") [Value.ref _]) _ _ _); (with_reducible rename Sep _ _ => S9); k_dflt (refine' list_copyS (by k_asm) (by k_asm) S9 (by exact rfl) (by exact rfl) (by is_list) ?_ (by first | size_fits | ((rw [List.size_toArray, sizeLine_eq]); (simp only [List.length_append, List.length_cons, List.length_nil]); omega)); k_whole); intro D' c' h' F' N' S'; (try clear S9); (try k_sweep))
  k_with "con room" => first | k_dflt (exact Nat.le_of_ble_eq_true rfl) | k_dflt (exact room1 (by with_reducible assumption) rfl) | k_dflt (exact room2 (by with_reducible assumption) rfl) | k_dflt (exact room3 (by with_reducible assumption) rfl) | ((try simp only [depth_under_make, depth_under_kw, depth_in1, depth_deeper, depth_caller, units_in1, units_deeper, units_under_make, Around.mark_units, units_caller]); (try dsimp only); omega) | ((try simp only [Code.weight, Code.frames, Code.isCreation, Code.isGuard, Code.isCaller, Code.cUnits]); (try dsimp only); omega)
  k_with "call builtin:len" => (k_here; (with_reducible show wpAny _ _ (call (Value.builtin "len") [Value.ref _]) _ _ _); k_dflt (refine' kst_len (by k_asm) (by k_mem) rfl (by ((try simp only [List.length_append, List.length_cons, List.length_nil]); omega)) ?_; k_whole))
  trivial
theorem words_n251 : True := by
  k_with "out" => first | exact Out.head | (apply Out.tail; walk_at "out")
  k_with "pk" => first | exact Pk.nil | (apply Pk.cons; walk_at "out"; walk_at "pk")
  k_with "tl" => first | assumption | exact List.mem_append_right _ (by assumption) | exact List.mem_append_left _ (by assumption) | (apply List.Mem.tail; walk_at "tl")
  k_with "con tl" => first | exact List.forall_mem_nil _ | (refine List.forall_mem_cons.mpr ⟨by k_mem, ?_⟩; walk_at "con tl") | (intro p9 h9; walk_at "tl")
  k_with "FinA" => ((unfold LCg.FinA); (with_reducible rename Sep _ _ => S9); intro D' h' tk' F' N' o1'; k_dflt (have S' := Sep.off1 S9 rfl rfl o1'); (clear o1' S9); (try simp only [List.nil_append, List.cons_append] at N'); (try dsimp only))
  k_with "FinE" => ((unfold LCg.FinE); (with_reducible rename Sep _ _ => S9); intro D' h' tk' F' N' o1'; k_dflt (have S' := Sep.off1 S9 rfl rfl o1'); (clear o1' S9); (try simp only [List.nil_append, List.cons_append] at N'); (try dsimp only))
  k_with "call ref" => (k_here; (with_reducible show wpAny _ _ (call (Value.ref 454) _) _ _ _); (with_reducible rename Sep _ _ => S9); k_dflt (refine' con_use (by k_asm) (by k_asm) (by k_asm) (by k_asm) (by k_asm) S9 (by walk_at "cut") (walked_ok _ _ _ _ _ _ _ _ _ _ _ _ _ _ _ _ _ _ _ _ (by assumption) (by assumption) (by assumption) (by assumption) (by omega) (by assumption)) (by exact rfl) (by exact rfl) (by walk_at "con room") (by walk_at "con room") (by exact rfl) (by exact rfl) (by exact rfl) (by first | assumption | exact rfl) (by ((intro g9 _ hr9); exact hPg _ (hr9 (rl, _) (by k_mem)) (fun p9 h9 => hr9 p9 (by walk_at "tl")))) ?_; k_whole); (intro n' h' tk' XX' F' fr' l4 lf'); (intro us'' kr'' o'' kvs'' t' hu hd hf hh hX'); (have N' := lf' _ hX'); (clear hX'); (clear lf'); (clear XX'); (have S' := Fresh.none fr'); (clear fr'); (dsimp only [List.cons_append, List.nil_append] at N' S'); (try clear S9); (try dsimp only); (try k_sweep))
  trivial
set_option maxHeartbeats 16000000 in
theorem tail25 (w : World) (mean : ExcName → Option Value) (mg mb : Str → Option Value) {base h₀ : Heap} {L fa : Addr} {cd : Value} {s : Shared} {Q : Flow → Shared → Prop} {E : Value → Shared → Prop} (m0 : Str → Option Value) (rl ra ca : Addr) (Ts : Led) (vs us : List Value) (nr kr : Nat) (o : Obj) (kvs : List (Int × Value)) (c : List (Int × Int)) (rs : List Int) (is : List Ins) (middle osp : Int) (tm tsp : Tok) (fin : Mach) (B : Below callerA base [] h₀) (X : (hd.heap_39 w.params).In h₀) (T : Top hd.view_39 (looseW hd.view_39 []) mean mg mb h₀) (F : Fr h₀ L s.heap m0) (hnm : ∀ p ∈ [((Str.ofString "regs_of", .ref ra) : Str × Value), ((Str.ofString "rows", .ref rl) : Str × Value), ((Str.ofString "cells", .ref ca) : Str × Value), ((Str.ofString "middle", .int middle tm) : Str × Value), ((Str.ofString "old_sp", .int osp tsp) : Str × Value)], m0 p.1 = some p.2) (hPg : ∀ g : Heap, g.get? rl = some (listOf vs.toArray nr) → (∀ p ∈ Ts, g.get? p.1 = some p.2) → ProgAt g rl vs is) (N : News h₀ L s.heap ((ra, listOf us.toArray kr) :: (ca, o) :: (rl, listOf vs.toArray nr) :: Ts)) (hS : Sep [ra, ca, rl] Ts) (hE : PassesOwn (model PG w) (callerA.deeper (lawEnv L fa cd)) (lawEnv L fa cd) E) (hz : vs.length ≤ 1000) (hu : IntsAre us rs) (hl : rs.length = 16) (hdo : o.IsDictOf (PySem.intKind PG w) kvs) (hfo : PyProof.V.FlatPairs PyData.int kvs (kdfD c)) (hlo : (ca == sysModules) = false) (hI : Inv is 100000 fin middle false 0 (rs.set 0 31) c) (hfl : fin.rs.length = 16) (h14 : fin.rs.getD 14 0 = osp) (h11 : fin.rs.getD 11 0 = 8888) (h0 : fin.rs.getD 0 0 = 31) (hq : ∀ h' tk, (∀ b o, h₀.get? b = some o → h'.get? b = some o) → Q (.ret (.bool true)) { s with heap := h', toks := tk }) :
    wpAny (model PG w) (callerA.deeper (lawEnv L fa cd)) (execs (lawBody.drop 25) (lawEnv L fa cd)) Q E s := by
  walk_at "con fill"
  have F2 := frOf F hnm
  clear F hnm
  unfold lawEnv
  conv in (execs _ _) => arg 1; whnf
  conv in (occs := *) lawScope => all_goals whnf
  k_steps
  all_goals (try dsimp only)
  all_goals (first
    | exact absurd h14 (by assumption)
    | exact absurd h11 (by assumption)
    | ((rename Fr _ _ _ _ => F9); (have e9 : (fin.rs.getD (Int.toNat 0) 0 == 31) = true := beq_iff_eq.mpr h0); (show Q (.ret (.bool (fin.rs.getD (Int.toNat 0) 0 == 31))) _); rw [e9]; exact hq _ _ F9.keep))
theorem rows_n24 : True := by
  w_top off
  k_with_none
  k_with "setat" => first | exact SetAt.head | (apply SetAt.tail; walk_at "setat")
  k_with "setF" => first | exact SetF.head | (apply SetF.tail; walk_at "setF")
  k_with "upd" => k_dflt (exact upd_sep (by with_reducible assumption) (by walk_at "setat") (by exact rfl) (by exact rfl))
  k_with "updF" => first | k_dflt (exact updF_sep (by with_reducible assumption) (by walk_at "setF") (by exact rfl) (by exact rfl)) | walk_at "updF2"
  k_with "cut" => first | exact Cut.nil | (apply Cut.take; walk_at "cut") | (apply Cut.keep; walk_at "cut")
  k_with "sub" => first | exact Sub.nil | (apply Sub.take; walk_at "sub") | (apply Sub.keep; walk_at "sub")
  k_with "con in" => repeat' (first | exact List.forall_mem_nil _ | refine List.forall_mem_cons.mpr ⟨by k_mem, ?_⟩)
  k_with "execs cons" => (k_here; (try k_made); (try k_gentoks); (refine wpAny_execs_cons (s := Shared.mk _ (Shared.gens s) (Shared.drawn s) _ (Shared.os s)) ?_); (try dsimp only); (try k_fold))
  k_with "con fill" => ((have hfill : PySem.Challenge.rw_pq0756_01 = PySem.Challenge.rw_pq0756_01 ∧ _root_.Mine.hd.heap_39 = _root_.Mine.hd.heap_39 := by (k_fill; exact ⟨rfl, rfl⟩)); clear hfill)
  k_with "con enter" => (refine' enter_def (w := _) (by assumption) (by assumption) (by assumption) (by assumption) (by assumption) (by assumption) (by assumption) (by (simp only [recursionLimit]; omega)) (by k_is) (by k_is) (by first | exact BindsTo.of_eq rfl | (refine' binds_K (by (refine' Frag.In.keeps (by assumption) (by assumption))) (by exact rfl) (by k_is) (by exact rfl) (by exact rfl) (by exact rfl)) | fail "con_enter: no rule for these arguments") (by exact locs rfl) (by exact rfl) ?_ (by exact rfl) (by exact rfl) (by exact rfl) (by decide); k_whole; intro L' h' Q9 E9 F' N' S' hE9 hQ9; (dsimp only [adrs, List.length_cons, List.length_nil] at S'); (try dsimp only))
  k_with "newTuple" => (k_here; (with_reducible rename Sep _ _ => S9); k_dflt (refine' newTuple_S (by k_asm) (by k_asm) S9 (by exact rfl) (by exact rfl) ?_; k_whole); intro l' h' F' N' S' l4; (try clear S9); (try k_sweep))
  k_with "newList" => (k_here; (with_reducible rename Sep _ _ => S9); k_dflt (refine' newList_S (by k_asm) (by k_asm) S9 (by exact rfl) (by exact rfl) ?_; k_whole); intro l' h' F' N' S' l4; (try clear S9); (try k_sweep))
  k_with "call ref" => (k_here; (with_reducible show wpAny _ _ (call (Value.ref _) _ _) _ _ _); (with_reducible rename Sep _ _ => S9); k_dflt (refine' call_clsS (by k_asm) (by k_asm) (by k_asm) S9 (by exact rfl) (by exact rfl) (by k_is) (by k_is) (by k_is) ?_; k_whole; intro x' d' h' F' N' S' l8 l9; (clear S9); (try k_sweep); k_enter))
  k_with "eval Dict nil nil" => (k_here; (with_reducible rename Sep _ _ => S9); k_dflt (refine' newDict_S (by k_asm) (by k_asm) S9 (by exact rfl) (by exact rfl) (TopRead.nolimit (by k_asm)) ?_; k_whole); intro d' h' o' F' N' S' l4 lo' hi' fi'; (try clear S9); (try k_sweep))
  k_with "call type:list" => (k_here; (with_reducible show wpAny _ _ (call (Value.type "list") [Value.ref _]) _ _ _); (with_reducible rename Sep _ _ => S9); k_dflt (refine' list_copyS (by k_asm) (by k_asm) S9 (by exact rfl) (by exact rfl) (by is_list) ?_ (by first | size_fits | ((rw [List.size_toArray, sizeLine_eq]); (simp only [List.length_append, List.length_cons, List.length_nil]); omega)); k_whole); intro D' c' h' F' N' S'; (try clear S9); (try k_sweep))
  k_with "con room" => first | k_dflt (exact Nat.le_of_ble_eq_true rfl) | k_dflt (exact room1 (by with_reducible assumption) rfl) | k_dflt (exact room2 (by with_reducible assumption) rfl) | k_dflt (exact room3 (by with_reducible assumption) rfl) | ((try simp only [depth_under_make, depth_under_kw, depth_in1, depth_deeper, depth_caller, units_in1, units_deeper, units_under_make, Around.mark_units, units_caller]); (try dsimp only); omega) | ((try simp only [Code.weight, Code.frames, Code.isCreation, Code.isGuard, Code.isCaller, Code.cUnits]); (try dsimp only); omega)
  k_with "call builtin:len" => (k_here; (with_reducible show wpAny _ _ (call (Value.builtin "len") [Value.ref _]) _ _ _); k_dflt (refine' kst_len (by k_asm) (by k_mem) rfl (by ((try simp only [List.length_append, List.length_cons, List.length_nil]); omega)) ?_; k_whole))
  trivial
theorem words_n241 : True := by
  k_with "out" => first | exact Out.head | (apply Out.tail; walk_at "out")
  k_with "pk" => first | exact Pk.nil | (apply Pk.cons; walk_at "out"; walk_at "pk")
  k_with "tl" => first | assumption | exact List.mem_append_right _ (by assumption) | exact List.mem_append_left _ (by assumption) | (apply List.Mem.tail; walk_at "tl")
  k_with "con tl" => first | exact List.forall_mem_nil _ | (refine List.forall_mem_cons.mpr ⟨by k_mem, ?_⟩; walk_at "con tl") | (intro p9 h9; walk_at "tl")
  k_with "FinA" => ((unfold LCg.FinA); (with_reducible rename Sep _ _ => S9); intro D' h' tk' F' N' o1'; k_dflt (have S' := Sep.off1 S9 rfl rfl o1'); (clear o1' S9); (try simp only [List.nil_append, List.cons_append] at N'); (try dsimp only))
  k_with "FinE" => ((unfold LCg.FinE); (with_reducible rename Sep _ _ => S9); intro D' h' tk' F' N' o1'; k_dflt (have S' := Sep.off1 S9 rfl rfl o1'); (clear o1' S9); (try simp only [List.nil_append, List.cons_append] at N'); (try dsimp only))
  k_with "execs cons" => ((with_reducible show wpAny _ _ (execs (Stmt.Assign _ _ ⟨381, _, _, _⟩ :: _) _) _ _ _); with_unfolding_all (refine' tail25 _ _ _ _ _ _ _ _ _ _ _ _ _ _ _ _ _ _ _ _ _ _ _ (by first | assumption | exact rfl) (by first | assumption | exact rfl) (by first | assumption | exact rfl) (by (rename Fr _ _ _ _ => F9); exact F9) (by kst_all) (by first | assumption | exact rfl) (by (rename News _ _ _ _ => N9); refine News.pick N9 ?_; walk_at "con tl") (by (with_reducible rename Sep _ _ => S9); refine Sep.pk S9 ?_; walk_at "pk") (by first | assumption | passes_own) (by first | assumption | exact rfl) (by first | assumption | exact rfl) (by first | assumption | exact rfl) (by first | assumption | exact rfl) (by first | assumption | exact rfl) (by first | assumption | exact rfl) (by first | assumption | exact rfl) (by first | assumption | exact rfl) (by first | assumption | exact rfl) (by first | assumption | exact rfl) (by first | assumption | exact rfl) (by first | assumption | exact rfl)))
  k_with "CompSrcT" => (k_here; k_dflt (refine LCt.CompSrcT.ledger (by rfl) (by k_asm) (by k_asm) (by k_mem) (by exact ints_line hsu hsl) ?_); intro g9; (with_reducible rename Sep _ _ => S9); k_dflt (refine' compT_ind (fun _ _ ys nx => ys = [] ∧ nx = ((ra, listOf us.toArray kr) :: (ca, o) :: (be, ob) :: (sp, listOf su.toArray ks) :: (rl, listOf vs.toArray nr) :: (L + 1, k1) :: (L + 1 + 1, k2) :: (L + 1 + 1 + 1, k3) :: Ts)) (fun i9 ys9 nx9 hJ9 => ?_) (fun k9 i9 ys9 nx9 hJ9 v9 I9 oI9 C9 oC9 D9 m9 h9 tk9 E9' hv9 hC9 hx9 F9' N9' off9 ne9 => ?_) _ _ _ _ ⟨rfl, rfl⟩); (all_goals (obtain ⟨rfl, rfl⟩ := hJ9)); rotate_left; ((obtain ⟨a9, t9, rfl, ha9⟩ := int_at hsu hv9); (have b9 := hsb _ ha9); k_dflt (have S8 := Sep.off3 S9 rfl rfl off9 ne9); (clear off9 ne9 S9)); rotate_right)
  trivial
set_option maxHeartbeats 16000000 in
theorem tail24 (w : World) (mean : ExcName → Option Value) (mg mb : Str → Option Value) {base h₀ : Heap} {L fa : Addr} {cd : Value} {s : Shared} {Q : Flow → Shared → Prop} {E : Value → Shared → Prop} (m0 : Str → Option Value) (k1 k2 k3 : Obj) (x : Addr) (q : Int) (tq : Tok) (size : Int) (tz : Tok) (rl ra ca be sp : Addr) (Ts : Led) (vs us su : List Value) (nr kr ks : Nat) (o ob : Obj) (kvs kvb : List (Int × Value)) (c cb : List (Int × Int)) (rs sl : List Int) (is : List Ins) (middle osp : Int) (tm tsp : Tok) (fin : Mach) (B : Below callerA base [] h₀) (X : (hd.heap_39 w.params).In h₀) (T : Top hd.view_39 (looseW hd.view_39 []) mean mg mb h₀) (F : Fr h₀ L s.heap m0) (hnm : ∀ p ∈ [((Str.ofString "regs_of", .ref ra) : Str × Value), ((Str.ofString "rows", .ref rl) : Str × Value), ((Str.ofString "cells", .ref ca) : Str × Value), ((Str.ofString "middle", .int middle tm) : Str × Value), ((Str.ofString "old_sp", .int osp tsp) : Str × Value), ((Str.ofString "before", .ref be) : Str × Value), ((Str.ofString "spare", .ref sp) : Str × Value)], m0 p.1 = some p.2) (hPg : ∀ g : Heap, g.get? rl = some (listOf vs.toArray nr) → (∀ p ∈ Ts, g.get? p.1 = some p.2) → ProgAt g rl vs is) (N : News h₀ L s.heap ((ra, listOf us.toArray kr) :: (ca, o) :: (be, ob) :: (sp, listOf su.toArray ks) :: (rl, listOf vs.toArray nr) :: (L + 1, k1) :: (L + 1 + 1, k2) :: (L + 1 + 1 + 1, k3) :: Ts)) (hS : Sep [ra, ca, be, sp, rl, L + 1, L + 1 + 1, L + 1 + 1 + 1] Ts) (hE : PassesOwn (model PG w) (callerA.deeper (lawEnv L fa cd)) (lawEnv L fa cd) E) (hk1 : k1.data = .cell (some (.int q tq))) (hk2 : k2.data = .cell (some (.ref x))) (hk3 : k3.data = .cell (some (.int size tz))) (hz : vs.length ≤ 1000) (hu : IntsAre us rs) (hl : rs.length = 16) (hdo : o.IsDictOf (PySem.intKind PG w) kvs) (hfo : PyProof.V.FlatPairs PyData.int kvs (kdfD c)) (hlo : (ca == sysModules) = false) (hI : Inv is 100000 fin middle false 0 (rs.set 0 31) c) (hfl : fin.rs.length = 16) (h14 : fin.rs.getD 14 0 = osp) (h11 : fin.rs.getD 11 0 = 8888) (h0 : fin.rs.getD 0 0 = 31) (hsu : IntsAre su sl) (hsl : sl.length ≤ 3) (hsb : ∀ v ∈ sl, 8 + 4 * q < 0 - v ∧ 0 - v ≤ size) (hdb : ob.IsDictOf (PySem.intKind PG w) kvb) (hfb : PyProof.V.FlatPairs PyData.int kvb (kdfD cb)) (hlb : (be == sysModules) = false) (hcb : cb.length = c.length) (hcl : c.length ≤ 1000) (hq : ∀ h' tk, (∀ b o, h₀.get? b = some o → h'.get? b = some o) → Q (.ret (.bool true)) { s with heap := h', toks := tk }) :
    wpAny (model PG w) (callerA.deeper (lawEnv L fa cd)) (execs (lawBody.drop 24) (lawEnv L fa cd)) Q E s := by
  walk_at "con fill"
  have F2 := frOf F hnm
  clear F hnm
  unfold lawEnv
  conv in (execs _ _) => arg 1; whnf
  conv in (occs := *) lawScope => all_goals whnf
  k_steps
  · exfalso; omega
  · with_reducible rename Sep _ _ => S9
    rename Fr _ _ _ _ => F9
    rename News _ _ _ _ => N9
    refine' LCg.CompEnd.intro F9 N9 ((ra, listOf us.toArray kr) :: (ca, o) :: (be, ob) :: (sp, listOf su.toArray ks) :: (rl, listOf vs.toArray nr) :: (L + 1, k1) :: (L + 1 + 1, k2) :: (L + 1 + 1 + 1, k3) :: Ts) (fun _ h => h) (off3_front S9 rfl rfl) ?e ⟨rfl, rfl⟩
    exact Or.inr ⟨_, by k_mem, rfl, _, rfl⟩
theorem rows_n23 : True := by
  w_top off
  k_with_none
  k_with "setat" => first | exact SetAt.head | (apply SetAt.tail; walk_at "setat")
  k_with "setF" => first | exact SetF.head | (apply SetF.tail; walk_at "setF")
  k_with "upd" => k_dflt (exact upd_sep (by with_reducible assumption) (by walk_at "setat") (by exact rfl) (by exact rfl))
  k_with "updF" => first | k_dflt (exact updF_sep (by with_reducible assumption) (by walk_at "setF") (by exact rfl) (by exact rfl)) | walk_at "updF2"
  k_with "cut" => first | exact Cut.nil | (apply Cut.take; walk_at "cut") | (apply Cut.keep; walk_at "cut")
  k_with "sub" => first | exact Sub.nil | (apply Sub.take; walk_at "sub") | (apply Sub.keep; walk_at "sub")
  k_with "con in" => repeat' (first | exact List.forall_mem_nil _ | refine List.forall_mem_cons.mpr ⟨by k_mem, ?_⟩)
  k_with "execs cons" => (k_here; (try k_made); (try k_gentoks); (refine wpAny_execs_cons (s := Shared.mk _ (Shared.gens s) (Shared.drawn s) _ (Shared.os s)) ?_); (try dsimp only); (try k_fold))
  k_with "con fill" => ((have hfill : PySem.Challenge.rw_pq0756_01 = PySem.Challenge.rw_pq0756_01 ∧ _root_.Mine.hd.heap_39 = _root_.Mine.hd.heap_39 := by (k_fill; exact ⟨rfl, rfl⟩)); clear hfill)
  k_with "con enter" => (refine' enter_def (w := _) (by assumption) (by assumption) (by assumption) (by assumption) (by assumption) (by assumption) (by assumption) (by (simp only [recursionLimit]; omega)) (by k_is) (by k_is) (by first | exact BindsTo.of_eq rfl | (refine' binds_K (by (refine' Frag.In.keeps (by assumption) (by assumption))) (by exact rfl) (by k_is) (by exact rfl) (by exact rfl) (by exact rfl)) | fail "con_enter: no rule for these arguments") (by exact locs rfl) (by exact rfl) ?_ (by exact rfl) (by exact rfl) (by exact rfl) (by decide); k_whole; intro L' h' Q9 E9 F' N' S' hE9 hQ9; (dsimp only [adrs, List.length_cons, List.length_nil] at S'); (try dsimp only))
  k_with "newTuple" => (k_here; (with_reducible rename Sep _ _ => S9); k_dflt (refine' newTuple_S (by k_asm) (by k_asm) S9 (by exact rfl) (by exact rfl) ?_; k_whole); intro l' h' F' N' S' l4; (try clear S9); (try k_sweep))
  k_with "newList" => (k_here; (with_reducible rename Sep _ _ => S9); k_dflt (refine' newList_S (by k_asm) (by k_asm) S9 (by exact rfl) (by exact rfl) ?_; k_whole); intro l' h' F' N' S' l4; (try clear S9); (try k_sweep))
  k_with "call ref" => (k_here; (with_reducible show wpAny _ _ (call (Value.ref _) _ _) _ _ _); (with_reducible rename Sep _ _ => S9); k_dflt (refine' call_clsS (by k_asm) (by k_asm) (by k_asm) S9 (by exact rfl) (by exact rfl) (by k_is) (by k_is) (by k_is) ?_; k_whole; intro x' d' h' F' N' S' l8 l9; (clear S9); (try k_sweep); k_enter))
  k_with "eval Dict nil nil" => (k_here; (with_reducible rename Sep _ _ => S9); k_dflt (refine' newDict_S (by k_asm) (by k_asm) S9 (by exact rfl) (by exact rfl) (TopRead.nolimit (by k_asm)) ?_; k_whole); intro d' h' o' F' N' S' l4 lo' hi' fi'; (try clear S9); (try k_sweep))
  k_with "call type:list" => (k_here; (with_reducible show wpAny _ _ (call (Value.type "list") [Value.ref _]) _ _ _); (with_reducible rename Sep _ _ => S9); k_dflt (refine' list_copyS (by k_asm) (by k_asm) S9 (by exact rfl) (by exact rfl) (by is_list) ?_ (by first | size_fits | ((rw [List.size_toArray, sizeLine_eq]); (simp only [List.length_append, List.length_cons, List.length_nil]); omega)); k_whole); intro D' c' h' F' N' S'; (try clear S9); (try k_sweep))
  k_with "con room" => first | k_dflt (exact Nat.le_of_ble_eq_true rfl) | k_dflt (exact room1 (by with_reducible assumption) rfl) | k_dflt (exact room2 (by with_reducible assumption) rfl) | k_dflt (exact room3 (by with_reducible assumption) rfl) | ((try simp only [depth_under_make, depth_under_kw, depth_in1, depth_deeper, depth_caller, units_in1, units_deeper, units_under_make, Around.mark_units, units_caller]); (try dsimp only); omega) | ((try simp only [Code.weight, Code.frames, Code.isCreation, Code.isGuard, Code.isCaller, Code.cUnits]); (try dsimp only); omega)
  k_with "call builtin:len" => (k_here; (with_reducible show wpAny _ _ (call (Value.builtin "len") [Value.ref _]) _ _ _); k_dflt (refine' kst_len (by k_asm) (by k_mem) rfl (by ((try simp only [List.length_append, List.length_cons, List.length_nil]); omega)) ?_; k_whole))
  trivial
theorem words_n231 : True := by
  k_with "out" => first | exact Out.head | (apply Out.tail; walk_at "out")
  k_with "pk" => first | exact Pk.nil | (apply Pk.cons; walk_at "out"; walk_at "pk")
  k_with "tl" => first | assumption | exact List.mem_append_right _ (by assumption) | exact List.mem_append_left _ (by assumption) | (apply List.Mem.tail; walk_at "tl")
  k_with "con tl" => first | exact List.forall_mem_nil _ | (refine List.forall_mem_cons.mpr ⟨by k_mem, ?_⟩; walk_at "con tl") | (intro p9 h9; walk_at "tl")
  k_with "FinA" => ((unfold LCg.FinA); (with_reducible rename Sep _ _ => S9); intro D' h' tk' F' N' o1'; k_dflt (have S' := Sep.off1 S9 rfl rfl o1'); (clear o1' S9); (try simp only [List.nil_append, List.cons_append] at N'); (try dsimp only))
  k_with "FinE" => ((unfold LCg.FinE); (with_reducible rename Sep _ _ => S9); intro D' h' tk' F' N' o1'; k_dflt (have S' := Sep.off1 S9 rfl rfl o1'); (clear o1' S9); (try simp only [List.nil_append, List.cons_append] at N'); (try dsimp only))
  k_with "exec For Name Call cons nil" => (k_here; (rename Fr _ _ _ _ => lF'); (with_unfolding_all refine' For_invVF lF' (by exact rfl) (by exact rfl) ?_ (by (intro _; exact rfl)) (by first | assumption | passes_own); k_whole))
  k_with "pyIter ref" => (k_here; (rename Fr _ _ _ _ => lF'); (rename News _ _ _ _ => lN'); (rename IsRange _ _ _ _ _ _ _ _ => rgX); (with_unfolding_all refine' range_search (by rfl) rgX (by exact small46 (by omega) (by omega)) (by exact size46 _) lF' lN' (fun i' k' t' h' tk' own' hi' hk' ho' F' N' => ?_) (fun u' h' tk' F' N' => ?_)); (all_goals (try clear lF' lN')); rotate_left; rotate_right; ((have hq' := hspot _ hi'); (rw [← hk'] at hq'); (unfold SpotOk at hq'); (obtain ⟨hq1', hq2', hq3', hq4'⟩ := hq'); (dsimp only [List.cons_append, List.nil_append] at N'); (try dsimp only)))
  k_with "InvEndN" => ((with_reducible show InvEndN _ _ (SrchJ _ _ _) _ _ _ _); (rename Fr _ _ _ _ => fE); (rename News _ _ _ _ => nE); refine' srch_end fE nE (by first | exact fun _ h9 => List.mem_append_left _ h9 | exact fun _ h9 => List.Mem.tail _ (List.mem_append_left _ h9) | exact fun _ h9 => List.Mem.tail _ (List.Mem.tail _ (List.mem_append_left _ h9))) (by (intro p9 h9; walk_at "tl")) (by (intro z9 hz9; exact if_neg hz9)))
  k_with "execs cons" => ((with_reducible show wpAny _ _ (execs (Stmt.If _ _ _ ⟨379, _, _, _⟩ :: _) _) _ _ _); with_unfolding_all (refine' tail24 _ _ _ _ _ _ _ _ _ _ _ _ _ _ _ _ _ _ _ _ _ _ _ _ _ _ _ _ _ _ _ _ _ _ _ _ _ _ _ (by first | assumption | exact rfl) (by first | assumption | exact rfl) (by first | assumption | exact rfl) (by (rename Fr _ _ _ _ => F9); exact F9) (by kst_all) (by first | assumption | exact rfl) (by (rename News _ _ _ _ => N9); refine News.pick N9 ?_; walk_at "con tl") (by (with_reducible rename Sep _ _ => S9); refine Sep.pk S9 ?_; walk_at "pk") (by first | assumption | passes_own) (by first | assumption | exact rfl) (by first | assumption | exact rfl) (by first | assumption | exact rfl) (by first | assumption | exact rfl) (by first | assumption | exact rfl) (by first | assumption | exact rfl) (by first | assumption | exact rfl) (by first | assumption | exact rfl) (by first | assumption | exact rfl) (by first | assumption | exact rfl) (by first | assumption | exact rfl) (by first | assumption | exact rfl) (by first | assumption | exact rfl) (by first | assumption | exact rfl) (by first | assumption | exact rfl) (by first | assumption | exact rfl) (by first | assumption | exact rfl) (by first | assumption | exact rfl) (by first | assumption | exact rfl) (by first | assumption | exact rfl) (by first | assumption | exact rfl) (by first | assumption | exact rfl) (by first | assumption | exact rfl)))
  trivial
set_option maxHeartbeats 16000000 in
theorem tail23 (w : World) (mean : ExcName → Option Value) (mg mb : Str → Option Value) {base h₀ : Heap} {L fa : Addr} {cd : Value} {s : Shared} {Q : Flow → Shared → Prop} {E : Value → Shared → Prop} (m0 : Str → Option Value) (k1 k2 k3 : Obj) (x : Addr) (q : Int) (tq : Tok) (size : Int) (tz : Tok) (rl ra ca be sp : Addr) (Ts : Led) (vs us su : List Value) (nr kr ks : Nat) (o ob : Obj) (kvs kvb : List (Int × Value)) (c cb : List (Int × Int)) (rs sl : List Int) (is : List Ins) (middle osp : Int) (tm tsp : Tok) (fin : Mach) (B : Below callerA base [] h₀) (X : (hd.heap_39 w.params).In h₀) (T : Top hd.view_39 (looseW hd.view_39 []) mean mg mb h₀) (F : Fr h₀ L s.heap m0) (hnm : ∀ p ∈ [((Str.ofString "regs_of", .ref ra) : Str × Value), ((Str.ofString "rows", .ref rl) : Str × Value), ((Str.ofString "cells", .ref ca) : Str × Value), ((Str.ofString "middle", .int middle tm) : Str × Value), ((Str.ofString "old_sp", .int osp tsp) : Str × Value), ((Str.ofString "before", .ref be) : Str × Value), ((Str.ofString "spare", .ref sp) : Str × Value)], m0 p.1 = some p.2) (hPg : ∀ g : Heap, g.get? rl = some (listOf vs.toArray nr) → (∀ p ∈ Ts, g.get? p.1 = some p.2) → ProgAt g rl vs is) (N : News h₀ L s.heap ((ra, listOf us.toArray kr) :: (ca, o) :: (be, ob) :: (sp, listOf su.toArray ks) :: (rl, listOf vs.toArray nr) :: (L + 1, k1) :: (L + 1 + 1, k2) :: (L + 1 + 1 + 1, k3) :: Ts)) (hS : Sep [ra, ca, be, sp, rl, L + 1, L + 1 + 1, L + 1 + 1 + 1] Ts) (hE : PassesOwn (model PG w) (callerA.deeper (lawEnv L fa cd)) (lawEnv L fa cd) E) (hk1 : k1.data = .cell (some (.int q tq))) (hk2 : k2.data = .cell (some (.ref x))) (hk3 : k3.data = .cell (some (.int size tz))) (hz : vs.length ≤ 1000) (hu : IntsAre us rs) (hl : rs.length = 16) (hdo : o.IsDictOf (PySem.intKind PG w) kvs) (hfo : PyProof.V.FlatPairs PyData.int kvs (kdfD c)) (hlo : (ca == sysModules) = false) (hI : Inv is 100000 fin middle false 0 (rs.set 0 31) c) (hfl : fin.rs.length = 16) (h14 : fin.rs.getD 14 0 = osp) (h11 : fin.rs.getD 11 0 = 8888) (h0 : fin.rs.getD 0 0 = 31) (hsu : IntsAre su sl) (hsl : sl.length ≤ 3) (hsb : ∀ v ∈ sl, 8 + 4 * q < 0 - v ∧ 0 - v ≤ size) (hdb : ob.IsDictOf (PySem.intKind PG w) kvb) (hfb : PyProof.V.FlatPairs PyData.int kvb (kdfD cb)) (hlb : (be == sysModules) = false) (hcb : cb.length = c.length) (hcl : c.length ≤ 1000) (hos : 0 ≤ osp ∧ osp ≤ 100000) (hspot : ∀ i : Nat, i < 46 → SpotOk osp q c cb (osp - 160 + (i : Int) * 4)) (hq : ∀ h' tk, (∀ b o, h₀.get? b = some o → h'.get? b = some o) → Q (.ret (.bool true)) { s with heap := h', toks := tk }) :
    wpAny (model PG w) (callerA.deeper (lawEnv L fa cd)) (execs (lawBody.drop 23) (lawEnv L fa cd)) Q E s := by
  walk_at "con fill"
  have F2 := frOf F hnm
  clear F hnm
  unfold lawEnv
  conv in (execs _ _) => arg 1; whnf
  conv in (occs := *) lawScope => all_goals whnf
  k_steps
  all_goals (try (exfalso; first | ((rename (List.any _ _ = false) => hany); (simp only [List.any_cons, List.any_nil, Bool.or_false, Bool.or_eq_false_iff, beq_eq_false_iff_ne, ne_eq] at hany); omega) | omega))
theorem rows_n20 : True := by
  w_top off
  k_with_none
  k_with "setat" => first | exact SetAt.head | (apply SetAt.tail; walk_at "setat")
  k_with "setF" => first | exact SetF.head | (apply SetF.tail; walk_at "setF")
  k_with "upd" => k_dflt (exact upd_sep (by with_reducible assumption) (by walk_at "setat") (by exact rfl) (by exact rfl))
  k_with "updF" => first | k_dflt (exact updF_sep (by with_reducible assumption) (by walk_at "setF") (by exact rfl) (by exact rfl)) | walk_at "updF2"
  k_with "cut" => first | exact Cut.nil | (apply Cut.take; walk_at "cut") | (apply Cut.keep; walk_at "cut")
  k_with "sub" => first | exact Sub.nil | (apply Sub.take; walk_at "sub") | (apply Sub.keep; walk_at "sub")
  k_with "con in" => repeat' (first | exact List.forall_mem_nil _ | refine List.forall_mem_cons.mpr ⟨by k_mem, ?_⟩)
  k_with "execs cons" => (k_here; (try k_made); (try k_gentoks); (refine wpAny_execs_cons (s := Shared.mk _ (Shared.gens s) (Shared.drawn s) _ (Shared.os s)) ?_); (try dsimp only); (try k_fold))
  k_with "con fill" => ((have hfill : PySem.Challenge.rw_pq0756_01 = PySem.Challenge.rw_pq0756_01 ∧ _root_.Mine.hd.heap_39 = _root_.Mine.hd.heap_39 := by (k_fill; exact ⟨rfl, rfl⟩)); clear hfill)
  k_with "con enter" => (refine' enter_def (w := _) (by assumption) (by assumption) (by assumption) (by assumption) (by assumption) (by assumption) (by assumption) (by (simp only [recursionLimit]; omega)) (by k_is) (by k_is) (by first | exact BindsTo.of_eq rfl | (refine' binds_K (by (refine' Frag.In.keeps (by assumption) (by assumption))) (by exact rfl) (by k_is) (by exact rfl) (by exact rfl) (by exact rfl)) | fail "con_enter: no rule for these arguments") (by exact locs rfl) (by exact rfl) ?_ (by exact rfl) (by exact rfl) (by exact rfl) (by decide); k_whole; intro L' h' Q9 E9 F' N' S' hE9 hQ9; (dsimp only [adrs, List.length_cons, List.length_nil] at S'); (try dsimp only))
  k_with "newTuple" => (k_here; (with_reducible rename Sep _ _ => S9); k_dflt (refine' newTuple_S (by k_asm) (by k_asm) S9 (by exact rfl) (by exact rfl) ?_; k_whole); intro l' h' F' N' S' l4; (try clear S9); (try k_sweep))
  k_with "newList" => (k_here; (with_reducible rename Sep _ _ => S9); k_dflt (refine' newList_S (by k_asm) (by k_asm) S9 (by exact rfl) (by exact rfl) ?_; k_whole); intro l' h' F' N' S' l4; (try clear S9); (try k_sweep))
  k_with "call ref" => (k_here; (with_reducible show wpAny _ _ (call (Value.ref _) _ _) _ _ _); (with_reducible rename Sep _ _ => S9); k_dflt (refine' call_clsS (by k_asm) (by k_asm) (by k_asm) S9 (by exact rfl) (by exact rfl) (by k_is) (by k_is) (by k_is) ?_; k_whole; intro x' d' h' F' N' S' l8 l9; (clear S9); (try k_sweep); k_enter))
  k_with "eval Dict nil nil" => (k_here; (with_reducible rename Sep _ _ => S9); k_dflt (refine' newDict_S (by k_asm) (by k_asm) S9 (by exact rfl) (by exact rfl) (TopRead.nolimit (by k_asm)) ?_; k_whole); intro d' h' o' F' N' S' l4 lo' hi' fi'; (try clear S9); (try k_sweep))
  k_with "call type:list" => (k_here; (with_reducible show wpAny _ _ (call (Value.type "list") [Value.ref _]) _ _ _); (with_reducible rename Sep _ _ => S9); k_dflt (refine' list_copyS (by k_asm) (by k_asm) S9 (by exact rfl) (by exact rfl) (by is_list) ?_ (by first | size_fits | ((rw [List.size_toArray, sizeLine_eq]); (simp only [List.length_append, List.length_cons, List.length_nil]); omega)); k_whole); intro D' c' h' F' N' S'; (try clear S9); (try k_sweep))
  k_with "con room" => first | k_dflt (exact Nat.le_of_ble_eq_true rfl) | k_dflt (exact room1 (by with_reducible assumption) rfl) | k_dflt (exact room2 (by with_reducible assumption) rfl) | k_dflt (exact room3 (by with_reducible assumption) rfl) | ((try simp only [depth_under_make, depth_under_kw, depth_in1, depth_deeper, depth_caller, units_in1, units_deeper, units_under_make, Around.mark_units, units_caller]); (try dsimp only); omega) | ((try simp only [Code.weight, Code.frames, Code.isCreation, Code.isGuard, Code.isCaller, Code.cUnits]); (try dsimp only); omega)
  k_with "call builtin:len" => (k_here; (with_reducible show wpAny _ _ (call (Value.builtin "len") [Value.ref _]) _ _ _); k_dflt (refine' kst_len (by k_asm) (by k_mem) rfl (by ((try simp only [List.length_append, List.length_cons, List.length_nil]); omega)) ?_; k_whole))
  trivial
theorem words_n201 : True := by
  k_with "out" => first | exact Out.head | (apply Out.tail; walk_at "out")
  k_with "pk" => first | exact Pk.nil | (apply Pk.cons; walk_at "out"; walk_at "pk")
  k_with "tl" => first | assumption | exact List.mem_append_right _ (by assumption) | exact List.mem_append_left _ (by assumption) | (apply List.Mem.tail; walk_at "tl")
  k_with "con tl" => first | exact List.forall_mem_nil _ | (refine List.forall_mem_cons.mpr ⟨by k_mem, ?_⟩; walk_at "con tl") | (intro p9 h9; walk_at "tl")
  k_with "FinA" => ((unfold LCg.FinA); (with_reducible rename Sep _ _ => S9); intro D' h' tk' F' N' o1'; k_dflt (have S' := Sep.off1 S9 rfl rfl o1'); (clear o1' S9); (try simp only [List.nil_append, List.cons_append] at N'); (try dsimp only))
  k_with "FinE" => ((unfold LCg.FinE); (with_reducible rename Sep _ _ => S9); intro D' h' tk' F' N' o1'; k_dflt (have S' := Sep.off1 S9 rfl rfl o1'); (clear o1' S9); (try simp only [List.nil_append, List.cons_append] at N'); (try dsimp only))
  k_with "call ref" => (k_here; (with_reducible show wpAny _ _ (call (Value.ref 454) _) _ _ _); (with_reducible rename Sep _ _ => S9); k_dflt (refine' con_use (by k_asm) (by k_asm) (by k_asm) (by k_asm) (by k_asm) S9 (by walk_at "cut") (walked_ok _ _ _ _ _ _ _ _ _ _ _ _ _ _ _ _ _ _ _ _ (by assumption) (by assumption) (by assumption) (by assumption) (by omega) (by assumption)) (by exact rfl) (by exact rfl) (by walk_at "con room") (by walk_at "con room") (by exact rfl) (by exact rfl) (by exact rfl) (by first | assumption | exact rfl) (by ((intro g9 _ hr9); exact hPg _ (hr9 (rl, _) (by k_mem)) (fun p9 h9 => hr9 p9 (by walk_at "tl")))) ?_; k_whole); (intro n' h' tk' XX' F' fr' l4 lf'); (intro us'' kr'' o'' kvs'' t' hu hd hf hh hX'); (have N' := lf' _ hX'); (clear hX'); (clear lf'); (clear XX'); (have S' := Fresh.none fr'); (clear fr'); (dsimp only [List.cons_append, List.nil_append] at N' S'); (try clear S9); (try dsimp only); (try k_sweep))
  k_with "execs cons" => ((with_reducible show wpAny _ _ (execs (Stmt.For _ _ _ _ ⟨373, _, _, _⟩ :: _) _) _ _ _); with_unfolding_all (refine' tail23 _ _ _ _ _ _ _ _ _ _ _ _ _ _ _ _ _ _ _ _ _ _ _ _ _ _ _ _ _ _ _ _ _ _ _ _ _ _ _ (by first | assumption | exact rfl) (by first | assumption | exact rfl) (by first | assumption | exact rfl) (by (rename Fr _ _ _ _ => F9); exact F9) (by kst_all) (by first | assumption | exact rfl) (by (rename News _ _ _ _ => N9); refine News.pick N9 ?_; walk_at "con tl") (by (with_reducible rename Sep _ _ => S9); refine Sep.pk S9 ?_; walk_at "pk") (by first | assumption | passes_own) (by first | assumption | exact rfl) (by first | assumption | exact rfl) (by first | assumption | exact rfl) (by first | assumption | exact rfl) (by first | assumption | exact rfl) (by first | assumption | exact rfl) (by first | assumption | exact rfl) (by first | assumption | exact rfl) (by first | assumption | exact rfl) (by first | assumption | exact rfl) (by first | assumption | exact rfl) (by first | assumption | exact rfl) (by first | assumption | exact rfl) (by first | assumption | exact rfl) (by first | assumption | exact rfl) (by first | assumption | exact rfl) (by first | assumption | exact rfl) (by first | assumption | exact rfl) (by first | assumption | exact rfl) (by first | assumption | exact rfl) (by first | assumption | exact rfl) (by first | assumption | exact rfl) (by first | assumption | exact rfl) (by first | assumption | exact rfl) (by first | assumption | exact rfl)))
  trivial
set_option maxHeartbeats 16000000 in
theorem tail20 (w : World) (mean : ExcName → Option Value) (mg mb : Str → Option Value) {base h₀ : Heap} {L fa : Addr} {cd : Value} {s : Shared} {Q : Flow → Shared → Prop} {E : Value → Shared → Prop} (m0 : Str → Option Value) (k1 k2 k3 : Obj) (x : Addr) (q : Int) (tq : Tok) (size : Int) (tz : Tok) (rl ra ca be sp : Addr) (Ts : Led) (vs us su : List Value) (nr kr ks : Nat) (o ob : Obj) (kvs kvb : List (Int × Value)) (c cb : List (Int × Int)) (rs sl : List Int) (is : List Ins) (middle osp : Int) (tm tsp : Tok) (fin fin1 : Mach) (B : Below callerA base [] h₀) (X : (hd.heap_39 w.params).In h₀) (T : Top hd.view_39 (looseW hd.view_39 []) mean mg mb h₀) (F : Fr h₀ L s.heap m0) (hnm : ∀ p ∈ [((Str.ofString "regs_of", .ref ra) : Str × Value), ((Str.ofString "rows", .ref rl) : Str × Value), ((Str.ofString "cells", .ref ca) : Str × Value), ((Str.ofString "middle", .int middle tm) : Str × Value), ((Str.ofString "old_sp", .int osp tsp) : Str × Value), ((Str.ofString "before", .ref be) : Str × Value), ((Str.ofString "spare", .ref sp) : Str × Value)], m0 p.1 = some p.2) (hPg : ∀ g : Heap, g.get? rl = some (listOf vs.toArray nr) → (∀ p ∈ Ts, g.get? p.1 = some p.2) → ProgAt g rl vs is) (N : News h₀ L s.heap ((ra, listOf us.toArray kr) :: (ca, o) :: (be, ob) :: (sp, listOf su.toArray ks) :: (rl, listOf vs.toArray nr) :: (L + 1, k1) :: (L + 1 + 1, k2) :: (L + 1 + 1 + 1, k3) :: Ts)) (hS : Sep [ra, ca, be, sp, rl, L + 1, L + 1 + 1, L + 1 + 1 + 1] Ts) (hE : PassesOwn (model PG w) (callerA.deeper (lawEnv L fa cd)) (lawEnv L fa cd) E) (hk1 : k1.data = .cell (some (.int q tq))) (hk2 : k2.data = .cell (some (.ref x))) (hk3 : k3.data = .cell (some (.int size tz))) (hz : vs.length ≤ 1000) (hu : IntsAre us rs) (hdo : o.IsDictOf (PySem.intKind PG w) kvs) (hfo : PyProof.V.FlatPairs PyData.int kvs (kdfD c)) (hlo : (ca == sysModules) = false) (hI1 : Inv is middle fin1 0 false 0 rs c) (hl : fin1.rs.length = 16) (hI : Inv is 100000 fin middle false 0 (fin1.rs.set 0 31) fin1.c) (hfl : fin.rs.length = 16) (h14 : fin.rs.getD 14 0 = osp) (h11 : fin.rs.getD 11 0 = 8888) (h0 : fin.rs.getD 0 0 = 31) (h14a : fin1.rs.getD 14 0 = osp - size) (h11a : fin1.rs.getD 11 0 = osp) (hc4 : kdfHas fin1.c (osp - 4) = true) (hc4v : kdfLook fin1.c (osp - 4) 0 = 100000) (hc8 : kdfHas fin1.c (osp - 8) = true) (hc8v : kdfLook fin1.c (osp - 8) 0 = 8888) (hsu : IntsAre su sl) (hsl : sl.length ≤ 3) (hsb : ∀ v ∈ sl, 8 + 4 * q < 0 - v ∧ 0 - v ≤ size) (hdb : ob.IsDictOf (PySem.intKind PG w) kvb) (hfb : PyProof.V.FlatPairs PyData.int kvb (kdfD cb)) (hlb : (be == sysModules) = false) (hcb : cb.length = fin1.c.length) (hcl : fin1.c.length ≤ 1000) (hos : 0 ≤ osp ∧ osp ≤ 100000) (hspot : ∀ i : Nat, i < 46 → SpotOk osp q fin1.c cb (osp - 160 + (i : Int) * 4)) (hq : ∀ h' tk, (∀ b o, h₀.get? b = some o → h'.get? b = some o) → Q (.ret (.bool true)) { s with heap := h', toks := tk }) :
    wpAny (model PG w) (callerA.deeper (lawEnv L fa cd)) (execs (lawBody.drop 20) (lawEnv L fa cd)) Q E s := by
  walk_at "con fill"
  have F2 := frOf F hnm
  clear F hnm
  unfold lawEnv
  conv in (execs _ _) => arg 1; whnf
  conv in (occs := *) lawScope => all_goals whnf
  k_steps
  all_goals (exfalso; first | exact absurd h11a (by assumption) | exact absurd h14a (by assumption) | exact absurd hc4v (by assumption) | exact absurd hc8v (by assumption) | omega)
theorem rows_nt13 : True := by
  w_top off
  k_with_none
  k_with "setat" => first | exact SetAt.head | (apply SetAt.tail; walk_at "setat")
  k_with "setF" => first | exact SetF.head | (apply SetF.tail; walk_at "setF")
  k_with "upd" => k_dflt (exact upd_sep (by with_reducible assumption) (by walk_at "setat") (by exact rfl) (by exact rfl))
  k_with "updF" => first | k_dflt (exact updF_sep (by with_reducible assumption) (by walk_at "setF") (by exact rfl) (by exact rfl)) | walk_at "updF2"
  k_with "cut" => first | exact Cut.nil | (apply Cut.take; walk_at "cut") | (apply Cut.keep; walk_at "cut")
  k_with "sub" => first | exact Sub.nil | (apply Sub.take; walk_at "sub") | (apply Sub.keep; walk_at "sub")
  k_with "con in" => repeat' (first | exact List.forall_mem_nil _ | refine List.forall_mem_cons.mpr ⟨by k_mem, ?_⟩)
  k_with "execs cons" => (k_here; (try k_made); (try k_gentoks); (refine wpAny_execs_cons (s := Shared.mk _ (Shared.gens s) (Shared.drawn s) _ (Shared.os s)) ?_); (try dsimp only); (try k_fold))
  k_with "con fill" => ((have hfill : PySem.Challenge.rw_pq0756_01 = PySem.Challenge.rw_pq0756_01 ∧ _root_.Mine.hd.heap_39 = _root_.Mine.hd.heap_39 := by (k_fill; exact ⟨rfl, rfl⟩)); clear hfill)
  k_with "con enter" => (refine' enter_def (w := _) (by assumption) (by assumption) (by assumption) (by assumption) (by assumption) (by assumption) (by assumption) (by (simp only [recursionLimit]; omega)) (by k_is) (by k_is) (by first | exact BindsTo.of_eq rfl | (refine' binds_K (by (refine' Frag.In.keeps (by assumption) (by assumption))) (by exact rfl) (by k_is) (by exact rfl) (by exact rfl) (by exact rfl)) | fail "con_enter: no rule for these arguments") (by exact locs rfl) (by exact rfl) ?_ (by exact rfl) (by exact rfl) (by exact rfl) (by decide); k_whole; intro L' h' Q9 E9 F' N' S' hE9 hQ9; (dsimp only [adrs, List.length_cons, List.length_nil] at S'); (try dsimp only))
  k_with "newTuple" => (k_here; (with_reducible rename Sep _ _ => S9); k_dflt (refine' newTuple_S (by k_asm) (by k_asm) S9 (by exact rfl) (by exact rfl) ?_; k_whole); intro l' h' F' N' S' l4; (try clear S9); (try k_sweep))
  k_with "newList" => (k_here; (with_reducible rename Sep _ _ => S9); k_dflt (refine' newList_S (by k_asm) (by k_asm) S9 (by exact rfl) (by exact rfl) ?_; k_whole); intro l' h' F' N' S' l4; (try clear S9); (try k_sweep))
  k_with "call ref" => (k_here; (with_reducible show wpAny _ _ (call (Value.ref _) _ _) _ _ _); (with_reducible rename Sep _ _ => S9); k_dflt (refine' call_clsS (by k_asm) (by k_asm) (by k_asm) S9 (by exact rfl) (by exact rfl) (by k_is) (by k_is) (by k_is) ?_; k_whole; intro x' d' h' F' N' S' l8 l9; (clear S9); (try k_sweep); k_enter))
  k_with "eval Dict nil nil" => (k_here; (with_reducible rename Sep _ _ => S9); k_dflt (refine' newDict_S (by k_asm) (by k_asm) S9 (by exact rfl) (by exact rfl) (TopRead.nolimit (by k_asm)) ?_; k_whole); intro d' h' o' F' N' S' l4 lo' hi' fi'; (try clear S9); (try k_sweep))
  k_with "call type:list" => (k_here; (with_reducible show wpAny _ _ (call (Value.type "list") [Value.ref _]) _ _ _); (with_reducible rename Sep _ _ => S9); k_dflt (refine' list_copyS (by k_asm) (by k_asm) S9 (by exact rfl) (by exact rfl) (by is_list) ?_ (by first | size_fits | ((rw [List.size_toArray, sizeLine_eq]); (simp only [List.length_append, List.length_cons, List.length_nil]); omega)); k_whole); intro D' c' h' F' N' S'; (try clear S9); (try k_sweep))
  k_with "con room" => first | k_dflt (exact Nat.le_of_ble_eq_true rfl) | k_dflt (exact room1 (by with_reducible assumption) rfl) | k_dflt (exact room2 (by with_reducible assumption) rfl) | k_dflt (exact room3 (by with_reducible assumption) rfl) | ((try simp only [depth_under_make, depth_under_kw, depth_in1, depth_deeper, depth_caller, units_in1, units_deeper, units_under_make, Around.mark_units, units_caller]); (try dsimp only); omega) | ((try simp only [Code.weight, Code.frames, Code.isCreation, Code.isGuard, Code.isCaller, Code.cUnits]); (try dsimp only); omega)
  k_with "call builtin:len" => (k_here; (with_reducible show wpAny _ _ (call (Value.builtin "len") [Value.ref _]) _ _ _); k_dflt (refine' kst_len (by k_asm) (by k_mem) rfl (by ((try simp only [List.length_append, List.length_cons, List.length_nil]); omega)) ?_; k_whole))
  trivial
theorem words_nt131 : True := by
  k_with "out" => first | exact Out.head | (apply Out.tail; walk_at "out")
  k_with "pk" => first | exact Pk.nil | (apply Pk.cons; walk_at "out"; walk_at "pk")
  k_with "tl" => first | assumption | exact List.mem_append_right _ (by assumption) | exact List.mem_append_left _ (by assumption) | (apply List.Mem.tail; walk_at "tl")
  k_with "con tl" => first | exact List.forall_mem_nil _ | (refine List.forall_mem_cons.mpr ⟨by k_mem, ?_⟩; walk_at "con tl") | (intro p9 h9; walk_at "tl")
  k_with "FinA" => ((unfold LCg.FinA); (with_reducible rename Sep _ _ => S9); intro D' h' tk' F' N' o1'; k_dflt (have S' := Sep.off1 S9 rfl rfl o1'); (clear o1' S9); (try simp only [List.nil_append, List.cons_append] at N'); (try dsimp only))
  k_with "FinE" => ((unfold LCg.FinE); (with_reducible rename Sep _ _ => S9); intro D' h' tk' F' N' o1'; k_dflt (have S' := Sep.off1 S9 rfl rfl o1'); (clear o1' S9); (try simp only [List.nil_append, List.cons_append] at N'); (try dsimp only))
  k_with "exec For Name Call cons nil" => (k_here; (rename Fr _ _ _ _ => lF'); (with_unfolding_all refine' For_invVF lF' (by exact rfl) (by exact rfl) ?_ (by (intro _; exact rfl)) (by first | assumption | passes_own); k_whole))
  k_with "pyIter ref" => (k_here; (rename Fr _ _ _ _ => lF'); (rename News _ _ _ _ => lN'); (rename IsRange _ _ _ _ _ _ _ _ => rgX); (with_unfolding_all refine' range_fill (by rfl) rgX (by exact ⟨by omega, by omega⟩) lF' lN' (by assumption) (by assumption) (fun i' k' t' o' kvs' h' tk' own' hi' hk' ho' hd' hf' hl' F' N' => ?_) (fun u' o' kvs' h' tk' hd' hf' F' N' => ?_)); (all_goals (try clear lF' lN')); rotate_left; rotate_right; ((dsimp only [List.cons_append, List.nil_append] at N'); (try dsimp only)))
  k_with "InvEndN" => ((with_reducible show InvEndN _ _ (FillJ _ _ _ _ _ _) _ _ _ _); (rename Fr _ _ _ _ => fE); (rename News _ _ _ _ => nE); refine' fill_end fE nE (by first | exact fun _ h9 => List.mem_append_left _ h9 | exact fun _ h9 => List.Mem.tail _ (List.mem_append_left _ h9) | exact fun _ h9 => List.Mem.tail _ (List.Mem.tail _ (List.mem_append_left _ h9))) (by assumption) (by assumption) (by (intro p9 h9; walk_at "tl")) (by (intro z9 hz9; exact if_neg hz9)))
  k_with "call type:dict" => (k_here; (with_reducible show wpAny _ _ (call (Value.type "dict") [Value.ref _]) _ _ _); k_dflt (refine' kt_dict_K (knd := PySem.intKind _ _) (enc := PyData.int) (by k_asm) (by k_asm) (by exact Top.nolimit (by k_asm)) (by kt_ktab) (by exact cells_line _ _ (by decide)) ?_); intro d' h' o' kvs' F' N' l1 lo' hd' hf'; (try k_lt l1))
  k_with "setItem ref int" => (k_here; (with_reducible show wpAny _ _ (setItem (Value.ref _) (Value.int 11 _) (Value.int _ _)) _ _ _); (with_reducible rename IntsAre _ (List.map _ _) => hiX); (replace hiX := ints_base hiX); k_dflt (refine' ksa_set (by k_asm) (by k_asm) (by k_upd) (by exact hiX) (by decide) (by decide) (by decide) ?_; k_whole); (intro h' F' N' hi' _ _); clear hiX; (try k_sweep))
  k_with "setItem ref int" => (k_here; (with_reducible show wpAny _ _ (setItem (Value.ref _) (Value.int 14 _) (Value.int _ _)) _ _ _); (with_reducible rename IntsAre _ (List.set _ _ _) => hiX); k_dflt (refine' ksa_set (by k_asm) (by k_asm) (by k_upd) (by exact hiX) (by decide) (by simp only [List.length_set]; decide) (by decide) ?_; k_whole); (intro h' F' N' hi' _ _); clear hiX; (try k_sweep))
  k_with "setItem ref int" => (k_here; (with_reducible show wpAny _ _ (setItem (Value.ref _) (Value.int 15 _) (Value.int _ _)) _ _ _); (with_reducible rename IntsAre _ (List.set _ _ _) => hiX); k_dflt (refine' ksa_set (by k_asm) (by k_asm) (by k_upd) (by exact hiX) (by decide) (by simp only [List.length_set]; decide) (by decide) ?_; k_whole); (intro h' F' N' hi' _ _); clear hiX; (try k_sweep))
  k_with "updF2" => (k_dflt (exact upd_own (by with_reducible assumption) (by assumption) (by exact rfl) (by exact rfl)))
  k_with "execs cons" => ((with_reducible show wpAny _ _ (execs (Stmt.If _ _ _ ⟨367, _, _, _⟩ :: _) _) _ _ _); with_unfolding_all (refine' tail20 _ _ _ _ _ _ _ _ _ _ _ _ _ _ _ _ _ _ _ _ _ _ _ _ _ _ _ _ _ _ _ _ _ _ _ _ _ _ _ _ (by first | assumption | exact rfl) (by first | assumption | exact rfl) (by first | assumption | exact rfl) (by (rename Fr _ _ _ _ => F9); exact F9) (by kst_all) (by first | assumption | exact rfl) (by (rename News _ _ _ _ => N9); refine News.pick N9 ?_; walk_at "con tl") (by (with_reducible rename Sep _ _ => S9); refine Sep.pk S9 ?_; walk_at "pk") (by first | assumption | passes_own) (by first | assumption | exact rfl) (by first | assumption | exact rfl) (by first | assumption | exact rfl) (by first | assumption | exact rfl) (by first | assumption | exact rfl) (by first | assumption | exact rfl) (by first | assumption | exact rfl) (by first | assumption | exact rfl) (by exact Runs.I1' (by assumption)) (by exact Runs.l1 (by assumption)) (by exact Runs.I2 (by assumption)) (by exact Runs.l2 (by assumption)) (by exact Runs.e14 (by assumption)) (by exact Runs.e11 (by assumption)) (by exact Runs.e0 (by assumption)) (by exact Runs.a14 (by assumption)) (by exact Runs.a11 (by assumption)) (by exact Runs.h4 (by assumption)) (by exact Runs.v4 (by assumption)) (by exact Runs.h8 (by assumption)) (by exact Runs.v8 (by assumption)) (by first | assumption | exact rfl) (by first | assumption | exact rfl) (by first | assumption | exact rfl) (by first | assumption | exact rfl) (by first | assumption | exact rfl) (by first | assumption | exact rfl) (by exact Runs.cb (by assumption)) (by exact Runs.cl (by assumption)) (by first | assumption | exact rfl) (by exact Runs.spot (by assumption)) (by first | assumption | exact rfl)))
  trivial
set_option maxHeartbeats 16000000 in
theorem tail13 (w : World) (mean : ExcName → Option Value) (mg mb : Str → Option Value) {base h₀ : Heap} {L fa : Addr} {cd : Value} {s : Shared} {Q : Flow → Shared → Prop} {E : Value → Shared → Prop} (m0 : Str → Option Value) (k1 k2 k3 : Obj) (x : Addr) (q : Int) (tq : Tok) (size : Int) (tz : Tok) (rl sp : Addr) (Ts : Led) (vs su : List Value) (nr ks : Nat) (sl : List Int) (middle osp : Int) (tm tsp : Tok) (fin fin1 : Mach) (B : Below callerA base [] h₀) (X : (hd.heap_39 w.params).In h₀) (T : Top hd.view_39 (looseW hd.view_39 []) mean mg mb h₀) (F : Fr h₀ L s.heap m0) (hnm : ∀ p ∈ [((Str.ofString "rows", .ref rl) : Str × Value), ((Str.ofString "middle", .int middle tm) : Str × Value), ((Str.ofString "old_sp", .int osp tsp) : Str × Value), ((Str.ofString "spare", .ref sp) : Str × Value)], m0 p.1 = some p.2) (hPg : ∀ g : Heap, g.get? rl = some (listOf vs.toArray nr) → (∀ p ∈ Ts, g.get? p.1 = some p.2) → ProgAt g rl vs (progI q size)) (N : News h₀ L s.heap ((sp, listOf su.toArray ks) :: (rl, listOf vs.toArray nr) :: (L + 1, k1) :: (L + 1 + 1, k2) :: (L + 1 + 1 + 1, k3) :: Ts)) (hS : Sep [sp, rl, L + 1, L + 1 + 1, L + 1 + 1 + 1] Ts) (hE : PassesOwn (model PG w) (callerA.deeper (lawEnv L fa cd)) (lawEnv L fa cd) E) (hk1 : k1.data = .cell (some (.int q tq))) (hk2 : k2.data = .cell (some (.ref x))) (hk3 : k3.data = .cell (some (.int size tz))) (hz : vs.length ≤ 1000) (hrun : Runs q size osp middle fin1 fin) (hsu : IntsAre su sl) (hsl : sl.length ≤ 3) (hsb : ∀ v ∈ sl, 8 + 4 * q < 0 - v ∧ 0 - v ≤ size) (hos : 0 ≤ osp ∧ osp ≤ 100000) (hq : ∀ h' tk, (∀ b o, h₀.get? b = some o → h'.get? b = some o) → Q (.ret (.bool true)) { s with heap := h', toks := tk }) :
    wpAny (model PG w) (callerA.deeper (lawEnv L fa cd)) (execs (lawBody.drop 13) (lawEnv L fa cd)) Q E s := by
  walk_at "con fill"
  have F2 := frOf F hnm
  clear F hnm
  unfold lawEnv
  conv in (execs _ _) => arg 1; whnf
  conv in (occs := *) lawScope => all_goals whnf
  k_steps
theorem rows_nt12 : True := by
  w_top off
  k_with_none
  k_with "setat" => first | exact SetAt.head | (apply SetAt.tail; walk_at "setat")
  k_with "setF" => first | exact SetF.head | (apply SetF.tail; walk_at "setF")
  k_with "upd" => k_dflt (exact upd_sep (by with_reducible assumption) (by walk_at "setat") (by exact rfl) (by exact rfl))
  k_with "updF" => first | k_dflt (exact updF_sep (by with_reducible assumption) (by walk_at "setF") (by exact rfl) (by exact rfl)) | walk_at "updF2"
  k_with "cut" => first | exact Cut.nil | (apply Cut.take; walk_at "cut") | (apply Cut.keep; walk_at "cut")
  k_with "sub" => first | exact Sub.nil | (apply Sub.take; walk_at "sub") | (apply Sub.keep; walk_at "sub")
  k_with "con in" => repeat' (first | exact List.forall_mem_nil _ | refine List.forall_mem_cons.mpr ⟨by k_mem, ?_⟩)
  k_with "execs cons" => (k_here; (try k_made); (try k_gentoks); (refine wpAny_execs_cons (s := Shared.mk _ (Shared.gens s) (Shared.drawn s) _ (Shared.os s)) ?_); (try dsimp only); (try k_fold))
  k_with "con fill" => ((have hfill : PySem.Challenge.rw_pq0756_01 = PySem.Challenge.rw_pq0756_01 ∧ _root_.Mine.hd.heap_39 = _root_.Mine.hd.heap_39 := by (k_fill; exact ⟨rfl, rfl⟩)); clear hfill)
  k_with "con enter" => (refine' enter_def (w := _) (by assumption) (by assumption) (by assumption) (by assumption) (by assumption) (by assumption) (by assumption) (by (simp only [recursionLimit]; omega)) (by k_is) (by k_is) (by first | exact BindsTo.of_eq rfl | (refine' binds_K (by (refine' Frag.In.keeps (by assumption) (by assumption))) (by exact rfl) (by k_is) (by exact rfl) (by exact rfl) (by exact rfl)) | fail "con_enter: no rule for these arguments") (by exact locs rfl) (by exact rfl) ?_ (by exact rfl) (by exact rfl) (by exact rfl) (by decide); k_whole; intro L' h' Q9 E9 F' N' S' hE9 hQ9; (dsimp only [adrs, List.length_cons, List.length_nil] at S'); (try dsimp only))
  k_with "newTuple" => (k_here; (with_reducible rename Sep _ _ => S9); k_dflt (refine' newTuple_S (by k_asm) (by k_asm) S9 (by exact rfl) (by exact rfl) ?_; k_whole); intro l' h' F' N' S' l4; (try clear S9); (try k_sweep))
  k_with "newList" => (k_here; (with_reducible rename Sep _ _ => S9); k_dflt (refine' newList_S (by k_asm) (by k_asm) S9 (by exact rfl) (by exact rfl) ?_; k_whole); intro l' h' F' N' S' l4; (try clear S9); (try k_sweep))
  k_with "call ref" => (k_here; (with_reducible show wpAny _ _ (call (Value.ref _) _ _) _ _ _); (with_reducible rename Sep _ _ => S9); k_dflt (refine' call_clsS (by k_asm) (by k_asm) (by k_asm) S9 (by exact rfl) (by exact rfl) (by k_is) (by k_is) (by k_is) ?_; k_whole; intro x' d' h' F' N' S' l8 l9; (clear S9); (try k_sweep); k_enter))
  k_with "eval Dict nil nil" => (k_here; (with_reducible rename Sep _ _ => S9); k_dflt (refine' newDict_S (by k_asm) (by k_asm) S9 (by exact rfl) (by exact rfl) (TopRead.nolimit (by k_asm)) ?_; k_whole); intro d' h' o' F' N' S' l4 lo' hi' fi'; (try clear S9); (try k_sweep))
  k_with "call type:list" => (k_here; (with_reducible show wpAny _ _ (call (Value.type "list") [Value.ref _]) _ _ _); (with_reducible rename Sep _ _ => S9); k_dflt (refine' list_copyS (by k_asm) (by k_asm) S9 (by exact rfl) (by exact rfl) (by is_list) ?_ (by first | size_fits | ((rw [List.size_toArray, sizeLine_eq]); (simp only [List.length_append, List.length_cons, List.length_nil]); omega)); k_whole); intro D' c' h' F' N' S'; (try clear S9); (try k_sweep))
  k_with "con room" => first | k_dflt (exact Nat.le_of_ble_eq_true rfl) | k_dflt (exact room1 (by with_reducible assumption) rfl) | k_dflt (exact room2 (by with_reducible assumption) rfl) | k_dflt (exact room3 (by with_reducible assumption) rfl) | ((try simp only [depth_under_make, depth_under_kw, depth_in1, depth_deeper, depth_caller, units_in1, units_deeper, units_under_make, Around.mark_units, units_caller]); (try dsimp only); omega) | ((try simp only [Code.weight, Code.frames, Code.isCreation, Code.isGuard, Code.isCaller, Code.cUnits]); (try dsimp only); omega)
  k_with "call builtin:len" => (k_here; (with_reducible show wpAny _ _ (call (Value.builtin "len") [Value.ref _]) _ _ _); k_dflt (refine' kst_len (by k_asm) (by k_mem) rfl (by ((try simp only [List.length_append, List.length_cons, List.length_nil]); omega)) ?_; k_whole))
  trivial
theorem words_nt121 : True := by
  k_with "out" => first | exact Out.head | (apply Out.tail; walk_at "out")
  k_with "pk" => first | exact Pk.nil | (apply Pk.cons; walk_at "out"; walk_at "pk")
  k_with "tl" => first | assumption | exact List.mem_append_right _ (by assumption) | exact List.mem_append_left _ (by assumption) | (apply List.Mem.tail; walk_at "tl")
  k_with "con tl" => first | exact List.forall_mem_nil _ | (refine List.forall_mem_cons.mpr ⟨by k_mem, ?_⟩; walk_at "con tl") | (intro p9 h9; walk_at "tl")
  k_with "FinA" => ((unfold LCg.FinA); (with_reducible rename Sep _ _ => S9); intro D' h' tk' F' N' o1'; k_dflt (have S' := Sep.off1 S9 rfl rfl o1'); (clear o1' S9); (try simp only [List.nil_append, List.cons_append] at N'); (try dsimp only))
  k_with "FinE" => ((unfold LCg.FinE); (with_reducible rename Sep _ _ => S9); intro D' h' tk' F' N' o1'; k_dflt (have S' := Sep.off1 S9 rfl rfl o1'); (clear o1' S9); (try simp only [List.nil_append, List.cons_append] at N'); (try dsimp only))
  k_with "subscriptTail Name Constant ref int" => (k_here; (with_reducible show wpAny _ _ (subscriptTail _ _ (Value.ref _) (Value.int _ _)) _ _ _); k_dflt (refine' led_item (by k_asm) (by k_mem) (by decide) (by decide) (by first | exact i8_0 | exact i8_1 | exact i8_2 | exact i8_3 | exact i8_4) ?_ (by with_unfolding_all rfl); k_whole))
  k_with "CompSrc" => (k_here; k_dflt (refine LCg.CompSrc.ledger (by rfl) (by k_asm) (by k_asm) (by k_mem) (by exact Nat.le_of_ble_eq_true rfl) ?_); intro g'; lcg_lit)
  k_with "execs cons" => ((with_reducible show wpAny _ _ (execs (Stmt.Assign _ _ ⟨359, _, _, _⟩ :: _) _) _ _ _); with_unfolding_all (refine' tail13 _ _ _ _ _ _ _ _ _ _ _ _ _ _ _ _ _ _ _ _ _ _ _ _ _ _ _ (by first | assumption | exact rfl) (by first | assumption | exact rfl) (by first | assumption | exact rfl) (by (rename Fr _ _ _ _ => F9); exact F9) (by kst_all) (by first | assumption | exact rfl) (by (rename News _ _ _ _ => N9); refine News.pick N9 ?_; walk_at "con tl") (by (with_reducible rename Sep _ _ => S9); refine Sep.pk S9 ?_; walk_at "pk") (by first | assumption | passes_own) (by first | assumption | exact rfl) (by first | assumption | exact rfl) (by first | assumption | exact rfl) (by first | assumption | exact rfl) (by (refine' runs_pick (by assumption) (by assumption) (by assumption))) (by first | assumption | exact rfl) (by first | assumption | exact rfl) (by first | assumption | exact rfl) (by exact ⟨by omega, by omega⟩) (by first | assumption | exact rfl)))
  trivial
set_option maxHeartbeats 16000000 in
theorem tail12 (w : World) (mean : ExcName → Option Value) (mg mb : Str → Option Value) {base h₀ : Heap} {L fa : Addr} {cd : Value} {s : Shared} {Q : Flow → Shared → Prop} {E : Value → Shared → Prop} (m0 : Str → Option Value) (k1 k2 k3 : Obj) (x : Addr) (q : Int) (tq : Tok) (size : Int) (tz : Tok) (sz : Int) (rl sp ro : Addr) (Ts : Led) (vs su : List Value) (nr ks kr : Nat) (sl : List Int) (middle : Int) (tm t0 t1 t2 t3 t4 t5 t6 t7 : Tok) (r0 r1 r2 r3 r4 r5 r6 r7 : Int) (B : Below callerA base [] h₀) (X : (hd.heap_39 w.params).In h₀) (T : Top hd.view_39 (looseW hd.view_39 []) mean mg mb h₀) (F : Fr h₀ L s.heap m0) (hnm : ∀ p ∈ [((Str.ofString "row", .ref ro) : Str × Value), ((Str.ofString "rows", .ref rl) : Str × Value), ((Str.ofString "middle", .int middle tm) : Str × Value), ((Str.ofString "spare", .ref sp) : Str × Value)], m0 p.1 = some p.2) (hPg : ∀ g : Heap, g.get? rl = some (listOf vs.toArray nr) → (∀ p ∈ Ts, g.get? p.1 = some p.2) → ProgAt g rl vs (progI q sz)) (N : News h₀ L s.heap ((sp, listOf su.toArray ks) :: (rl, listOf vs.toArray nr) :: (ro, listOf #[.int r0 t0, .int r1 t1, .int r2 t2, .int r3 t3, .int r4 t4, .int r5 t5, .int r6 t6, .int r7 t7] kr) :: (L + 1, k1) :: (L + 1 + 1, k2) :: (L + 1 + 1 + 1, k3) :: Ts)) (hS : Sep [sp, rl, ro, L + 1, L + 1 + 1, L + 1 + 1 + 1] Ts) (hE : PassesOwn (model PG w) (callerA.deeper (lawEnv L fa cd)) (lawEnv L fa cd) E) (hk1 : k1.data = .cell (some (.int q tq))) (hk2 : k2.data = .cell (some (.ref x))) (hk3 : k3.data = .cell (some (.int size tz))) (hz : vs.length ≤ 1000) (hsz : sz = size) (hr4 : 0 ≤ r4 ∧ r4 < 997) (h0 : 0 ≤ q) (h9 : q ≤ 9) (hmid : middle = ((4 + (zrows (0 - 8 - 4 * q) q.toNat).length : Nat) : Int)) (hsu : IntsAre su sl) (hsl : sl.length ≤ 3) (hsb : ∀ v ∈ sl, 8 + 4 * q < 0 - v ∧ 0 - v ≤ size) (hq : ∀ h' tk, (∀ b o, h₀.get? b = some o → h'.get? b = some o) → Q (.ret (.bool true)) { s with heap := h', toks := tk }) :
    wpAny (model PG w) (callerA.deeper (lawEnv L fa cd)) (execs (lawBody.drop 12) (lawEnv L fa cd)) Q E s := by
  subst hsz
  have g3 : 0 ≤ Int.fmod r4 50 := fmod_lo r4 (by decide)
  have g4 : Int.fmod r4 50 < 50 := fmod_hi r4 (by decide)
  walk_at "con fill"
  have F2 := frOf F hnm
  clear F hnm
  unfold lawEnv
  conv in (execs _ _) => arg 1; whnf
  conv in (occs := *) lawScope => all_goals whnf
  k_steps
theorem rows_nt9 : True := by
  w_top off
  k_with_none
  k_with "setat" => first | exact SetAt.head | (apply SetAt.tail; walk_at "setat")
  k_with "setF" => first | exact SetF.head | (apply SetF.tail; walk_at "setF")
  k_with "upd" => k_dflt (exact upd_sep (by with_reducible assumption) (by walk_at "setat") (by exact rfl) (by exact rfl))
  k_with "updF" => first | k_dflt (exact updF_sep (by with_reducible assumption) (by walk_at "setF") (by exact rfl) (by exact rfl)) | walk_at "updF2"
  k_with "cut" => first | exact Cut.nil | (apply Cut.take; walk_at "cut") | (apply Cut.keep; walk_at "cut")
  k_with "sub" => first | exact Sub.nil | (apply Sub.take; walk_at "sub") | (apply Sub.keep; walk_at "sub")
  k_with "con in" => repeat' (first | exact List.forall_mem_nil _ | refine List.forall_mem_cons.mpr ⟨by k_mem, ?_⟩)
  k_with "execs cons" => (k_here; (try k_made); (try k_gentoks); (refine wpAny_execs_cons (s := Shared.mk _ (Shared.gens s) (Shared.drawn s) _ (Shared.os s)) ?_); (try dsimp only); (try k_fold))
  k_with "con fill" => ((have hfill : PySem.Challenge.rw_pq0756_01 = PySem.Challenge.rw_pq0756_01 ∧ _root_.Mine.hd.heap_39 = _root_.Mine.hd.heap_39 := by (k_fill; exact ⟨rfl, rfl⟩)); clear hfill)
  k_with "con enter" => (refine' enter_def (w := _) (by assumption) (by assumption) (by assumption) (by assumption) (by assumption) (by assumption) (by assumption) (by (simp only [recursionLimit]; omega)) (by k_is) (by k_is) (by first | exact BindsTo.of_eq rfl | (refine' binds_K (by (refine' Frag.In.keeps (by assumption) (by assumption))) (by exact rfl) (by k_is) (by exact rfl) (by exact rfl) (by exact rfl)) | fail "con_enter: no rule for these arguments") (by exact locs rfl) (by exact rfl) ?_ (by exact rfl) (by exact rfl) (by exact rfl) (by decide); k_whole; intro L' h' Q9 E9 F' N' S' hE9 hQ9; (dsimp only [adrs, List.length_cons, List.length_nil] at S'); (try dsimp only))
  k_with "newTuple" => (k_here; (with_reducible rename Sep _ _ => S9); k_dflt (refine' newTuple_S (by k_asm) (by k_asm) S9 (by exact rfl) (by exact rfl) ?_; k_whole); intro l' h' F' N' S' l4; (try clear S9); (try k_sweep))
  k_with "newList" => (k_here; (with_reducible rename Sep _ _ => S9); k_dflt (refine' newList_S (by k_asm) (by k_asm) S9 (by exact rfl) (by exact rfl) ?_; k_whole); intro l' h' F' N' S' l4; (try clear S9); (try k_sweep))
  k_with "call ref" => (k_here; (with_reducible show wpAny _ _ (call (Value.ref _) _ _) _ _ _); (with_reducible rename Sep _ _ => S9); k_dflt (refine' call_clsS (by k_asm) (by k_asm) (by k_asm) S9 (by exact rfl) (by exact rfl) (by k_is) (by k_is) (by k_is) ?_; k_whole; intro x' d' h' F' N' S' l8 l9; (clear S9); (try k_sweep); k_enter))
  k_with "eval Dict nil nil" => (k_here; (with_reducible rename Sep _ _ => S9); k_dflt (refine' newDict_S (by k_asm) (by k_asm) S9 (by exact rfl) (by exact rfl) (TopRead.nolimit (by k_asm)) ?_; k_whole); intro d' h' o' F' N' S' l4 lo' hi' fi'; (try clear S9); (try k_sweep))
  k_with "call type:list" => (k_here; (with_reducible show wpAny _ _ (call (Value.type "list") [Value.ref _]) _ _ _); (with_reducible rename Sep _ _ => S9); k_dflt (refine' list_copyS (by k_asm) (by k_asm) S9 (by exact rfl) (by exact rfl) (by is_list) ?_ (by first | size_fits | ((rw [List.size_toArray, sizeLine_eq]); (simp only [List.length_append, List.length_cons, List.length_nil]); omega)); k_whole); intro D' c' h' F' N' S'; (try clear S9); (try k_sweep))
  k_with "con room" => first | k_dflt (exact Nat.le_of_ble_eq_true rfl) | k_dflt (exact room1 (by with_reducible assumption) rfl) | k_dflt (exact room2 (by with_reducible assumption) rfl) | k_dflt (exact room3 (by with_reducible assumption) rfl) | ((try simp only [depth_under_make, depth_under_kw, depth_in1, depth_deeper, depth_caller, units_in1, units_deeper, units_under_make, Around.mark_units, units_caller]); (try dsimp only); omega) | ((try simp only [Code.weight, Code.frames, Code.isCreation, Code.isGuard, Code.isCaller, Code.cUnits]); (try dsimp only); omega)
  k_with "call builtin:len" => (k_here; (with_reducible show wpAny _ _ (call (Value.builtin "len") [Value.ref _]) _ _ _); k_dflt (refine' kst_len (by k_asm) (by k_mem) rfl (by ((try simp only [List.length_append, List.length_cons, List.length_nil]); omega)) ?_; k_whole))
  trivial
theorem words_nt91 : True := by
  k_with "out" => first | exact Out.head | (apply Out.tail; walk_at "out")
  k_with "pk" => first | exact Pk.nil | (apply Pk.cons; walk_at "out"; walk_at "pk")
  k_with "tl" => first | assumption | exact List.mem_append_right _ (by assumption) | exact List.mem_append_left _ (by assumption) | (apply List.Mem.tail; walk_at "tl")
  k_with "con tl" => first | exact List.forall_mem_nil _ | (refine List.forall_mem_cons.mpr ⟨by k_mem, ?_⟩; walk_at "con tl") | (intro p9 h9; walk_at "tl")
  k_with "FinA" => ((unfold LCg.FinA); (with_reducible rename Sep _ _ => S9); intro D' h' tk' F' N' o1'; k_dflt (have S' := Sep.off1 S9 rfl rfl o1'); (clear o1' S9); (try simp only [List.nil_append, List.cons_append] at N'); (try dsimp only))
  k_with "FinE" => ((unfold LCg.FinE); (with_reducible rename Sep _ _ => S9); intro D' h' tk' F' N' o1'; k_dflt (have S' := Sep.off1 S9 rfl rfl o1'); (clear o1' S9); (try simp only [List.nil_append, List.cons_append] at N'); (try dsimp only))
  k_with "subscriptTail Name Constant ref int" => (k_here; (with_reducible show wpAny _ _ (subscriptTail _ _ (Value.ref _) (Value.int _ _)) _ _ _); k_dflt (refine' led_item (by k_asm) (by k_mem) (by decide) (by decide) (by first | exact i8_0 | exact i8_1 | exact i8_2 | exact i8_3 | exact i8_4) ?_ (by with_unfolding_all rfl); k_whole))
  k_with "CompSrc" => (k_here; k_dflt (refine LCg.CompSrc.ledger (by rfl) (by k_asm) (by k_asm) (by k_mem) (by exact Nat.le_of_ble_eq_true rfl) ?_); intro g'; lcg_lit)
  k_with "dk" => first | assumption | (refine' DictOK.put (by walk_at "dk"))
  k_with "dk get" => first | assumption | exact getL_hit | (refine' getL_miss' (by decide) (by walk_at "dk get")) | (refine' DictOK.isSome (by walk_at "dk"))
  trivial
local macro_rules | `(tactic| k_get) => `(tactic| walk_at "dk get")
theorem words_nt92 : True := by
  k_with "setAttr ref" => (k_here; k_dflt (refine' set_dict (by k_asm) (by k_asm) (by k_asm) (by k_inst) (by exact rfl) (by k_is) (by k_is) (by k_is) (by k_is) (by (refine' DictOK.isSome (by walk_at "dk"))) (by exact rfl) (by k_upd) (by (refine' DictOK.len (by walk_at "dk") (by omega))) ?_; k_whole; intro h' F' N'; (try k_sweep)))
  k_with "call ref" => (k_here; (with_reducible show wpAny _ _ (call (Value.ref 77) _) _ _ _); (with_reducible rename Sep _ _ => S9); k_dflt (refine' con_use (by k_asm) (by k_asm) (by k_asm) (by k_asm) (by k_asm) S9 (by walk_at "cut") (end_ok _ _ _ _ _ _ _ _ _ _ _ _ _ _ _ _ _ _ _ _ _ _ _ _ _ _ _ _ _ (by assumption) (by omega) (by omega)) (by exact rfl) (by exact rfl) (by walk_at "con room") (by walk_at "con room") (by exact rfl) (by exact rfl) (by exact rfl) (by first | assumption | exact rfl) (by exact fun _ _ _ => True.intro) ?_; k_whole); (intro n' h' tk' XX' F' fr' l4 lf'); (intro Ts' q'' ws' nn'' hrQ hrW hle hX'); (have N' := News.tlk 5 (lf' _ hX')); (clear hX'); (clear lf'); (clear XX'); (have S' := Fresh.tail fr' hle); (clear hle); (dsimp only [List.take, List.drop] at N'); (clear fr'); (dsimp only [List.cons_append, List.nil_append] at N' S'); (have hwl := hrW.length); (simp only [List.length_cons, List.length_nil] at hwl); (try clear S9); (try dsimp only); (try k_sweep))
  k_with "execs cons" => ((with_reducible show wpAny _ _ (execs (Stmt.Assign _ _ ⟨358, _, _, _⟩ :: _) _) _ _ _); with_unfolding_all (refine' tail12 _ _ _ _ _ _ _ _ _ _ _ _ _ _ _ _ _ _ _ _ _ _ _ _ _ _ _ _ _ _ _ _ _ _ _ _ _ _ _ _ _ _ (by first | assumption | exact rfl) (by first | assumption | exact rfl) (by first | assumption | exact rfl) (by (rename Fr _ _ _ _ => F9); exact F9) (by kst_all) (prog_ts hrA hrQ hrZ hrW rfl) (by (rename News _ _ _ _ => N9); refine News.pick N9 ?_; walk_at "con tl") (by (with_reducible rename Sep _ _ => S9); refine Sep.pk S9 ?_; walk_at "pk") (by first | assumption | passes_own) (by first | assumption | exact rfl) (by first | assumption | exact rfl) (by first | assumption | exact rfl) (by ((simp only [List.length_append, List.length_cons, List.length_nil]); omega)) (by omega) (by first | assumption | exact rfl) (by first | assumption | exact rfl) (by first | assumption | exact rfl) (by first | assumption | exact rfl) (by first | assumption | exact rfl) (by omega) (by (refine' sb_le (by assumption) (by omega))) (by first | assumption | exact rfl)))
  trivial
set_option maxHeartbeats 16000000 in
theorem tail9 (w : World) (mean : ExcName → Option Value) (mg mb : Str → Option Value) {base h₀ : Heap} {L fa : Addr} {cd : Value} {s : Shared} {Q : Flow → Shared → Prop} {E : Value → Shared → Prop} (m0 : Str → Option Value) (x dx b bd R qa sp ro ty p ft a0 a1 a2 : Addr) (Ts : Led) (ces : List DictEntry) (cn nd nn ks kr ns : Nat) (su zs : List Value) (sl : List Int) (t s1 s2 s3 s4 tr tm t0 t1 t2 t3 t4 t5 t6 t7 tq : Tok) (r0 r1 r2 r3 r4 r5 r6 r7 q middle : Int) (k1 k2 k3 : Obj) (B : Below callerA base [] h₀) (X : (hd.heap_39 w.params).In h₀) (T : Top hd.view_39 (looseW hd.view_39 []) mean mg mb h₀) (F : Fr h₀ L s.heap m0) (hnm : ∀ p ∈ [((Str.ofString "row", .ref ro) : Str × Value), ((Str.ofString "room_at", .int 3 tr) : Str × Value), ((Str.ofString "middle", .int middle tm) : Str × Value), ((Str.ofString "spare", .ref sp) : Str × Value)], m0 p.1 = some p.2) (hrA : RowsIn Ts [.ref a0, .ref a1, .ref a2] [.str 15 14 (-4), .str 11 14 (-8), .mov 11 14]) (hrZ : RowsIn Ts zs (zrows (0 - 8 - 4 * q) q.toNat)) (N : News h₀ L s.heap ((sp, listOf su.toArray ks) :: (x, instObj 379 dx) :: (dx, dictOf ces cn) :: (qa, tupOf [.str (Str.ofString "SUBI") s1, .int 14 s2, .int 14 s3, .int 0 s4]) :: (b, instObj 143 bd) :: (bd, dictOf [ent w "rows" t (.ref R)] nd) :: (R, listOf (.ref a0 :: .ref a1 :: .ref a2 :: .ref qa :: zs).toArray nn) :: (ro, listOf #[.int r0 t0, .int r1 t1, .int r2 t2, .int r3 t3, .int r4 t4, .int r5 t5, .int r6 t6, .int r7 t7] kr) :: (L + 1, k1) :: (L + 1 + 1, k2) :: (L + 1 + 1 + 1, k3) :: Ts)) (hS : Sep [sp, x, dx, qa, b, bd, R, ro, L + 1, L + 1 + 1, L + 1 + 1 + 1] Ts) (hE : PassesOwn (model PG w) (callerA.deeper (lawEnv L fa cd)) (lawEnv L fa cd) E) (hk1 : k1.data = .cell (some (.int q tq))) (hk2 : k2.data = .cell (some (.ref x))) (hk3 : k3.data = .cell none) (hr3 : 0 ≤ r3 ∧ r3 < 997) (hr4 : 0 ≤ r4 ∧ r4 < 997) (h0 : 0 ≤ q) (h9 : q ≤ 9) (hmid : middle = ((4 + (zrows (0 - 8 - 4 * q) q.toNat).length : Nat) : Int)) (C : CoderD ces ty b p ft (0 - 8 - 4 * q - 4 * (ns : Int)) (0 - 8 - 4 * q - 4 * (ns : Int)) (Int.fmod r3 5)) (hsu : IntsAre su sl) (hsm : sl.length = ns) (hs3 : ns ≤ 3) (hsb : ∀ v ∈ sl, 8 + 4 * q < 0 - v ∧ 0 - v ≤ 8 + 4 * q + 4 * (ns : Int)) (hzl : zs.length ≤ 7) (hq : ∀ h' tk, (∀ b o, h₀.get? b = some o → h'.get? b = some o) → Q (.ret (.bool true)) { s with heap := h', toks := tk }) :
    wpAny (model PG w) (callerA.deeper (lawEnv L fa cd)) (execs (lawBody.drop 9) (lawEnv L fa cd)) Q E s := by
  have D1 := C.ok
  have M1 := C.m1
  have M2 := C.m2
  have M3 := C.m3
  have M4 := C.m4
  have M5 := C.m5
  have M6 := C.m6
  have D2 := C.types
  have D3 := C.buf
  have D4 := C.pool
  have g1 : 0 ≤ Int.fmod r3 5 := fmod_lo r3 (by decide)
  have g2 : Int.fmod r3 5 < 5 := fmod_hi r3 (by decide)
  have g3 : 0 ≤ Int.fmod r4 50 := fmod_lo r4 (by decide)
  have g4 : Int.fmod r4 50 < 50 := fmod_hi r4 (by decide)
  walk_at "con fill"
  have F2 := frOf F hnm
  clear F hnm
  unfold lawEnv
  conv in (execs _ _) => arg 1; whnf
  conv in (occs := *) lawScope => all_goals whnf
  k_steps
theorem rows_nt7 : True := by
  w_top off
  k_with_none
  k_with "setat" => first | exact SetAt.head | (apply SetAt.tail; walk_at "setat")
  k_with "setF" => first | exact SetF.head | (apply SetF.tail; walk_at "setF")
  k_with "upd" => k_dflt (exact upd_sep (by with_reducible assumption) (by walk_at "setat") (by exact rfl) (by exact rfl))
  k_with "updF" => first | k_dflt (exact updF_sep (by with_reducible assumption) (by walk_at "setF") (by exact rfl) (by exact rfl)) | walk_at "updF2"
  k_with "cut" => first | exact Cut.nil | (apply Cut.take; walk_at "cut") | (apply Cut.keep; walk_at "cut")
  k_with "sub" => first | exact Sub.nil | (apply Sub.take; walk_at "sub") | (apply Sub.keep; walk_at "sub")
  k_with "con in" => repeat' (first | exact List.forall_mem_nil _ | refine List.forall_mem_cons.mpr ⟨by k_mem, ?_⟩)
  k_with "execs cons" => (k_here; (try k_made); (try k_gentoks); (refine wpAny_execs_cons (s := Shared.mk _ (Shared.gens s) (Shared.drawn s) _ (Shared.os s)) ?_); (try dsimp only); (try k_fold))
  k_with "con fill" => ((have hfill : PySem.Challenge.rw_pq0756_01 = PySem.Challenge.rw_pq0756_01 ∧ _root_.Mine.hd.heap_39 = _root_.Mine.hd.heap_39 := by (k_fill; exact ⟨rfl, rfl⟩)); clear hfill)
  k_with "con enter" => (refine' enter_def (w := _) (by assumption) (by assumption) (by assumption) (by assumption) (by assumption) (by assumption) (by assumption) (by (simp only [recursionLimit]; omega)) (by k_is) (by k_is) (by first | exact BindsTo.of_eq rfl | (refine' binds_K (by (refine' Frag.In.keeps (by assumption) (by assumption))) (by exact rfl) (by k_is) (by exact rfl) (by exact rfl) (by exact rfl)) | fail "con_enter: no rule for these arguments") (by exact locs rfl) (by exact rfl) ?_ (by exact rfl) (by exact rfl) (by exact rfl) (by decide); k_whole; intro L' h' Q9 E9 F' N' S' hE9 hQ9; (dsimp only [adrs, List.length_cons, List.length_nil] at S'); (try dsimp only))
  k_with "newTuple" => (k_here; (with_reducible rename Sep _ _ => S9); k_dflt (refine' newTuple_S (by k_asm) (by k_asm) S9 (by exact rfl) (by exact rfl) ?_; k_whole); intro l' h' F' N' S' l4; (try clear S9); (try k_sweep))
  k_with "newList" => (k_here; (with_reducible rename Sep _ _ => S9); k_dflt (refine' newList_S (by k_asm) (by k_asm) S9 (by exact rfl) (by exact rfl) ?_; k_whole); intro l' h' F' N' S' l4; (try clear S9); (try k_sweep))
  k_with "call ref" => (k_here; (with_reducible show wpAny _ _ (call (Value.ref _) _ _) _ _ _); (with_reducible rename Sep _ _ => S9); k_dflt (refine' call_clsS (by k_asm) (by k_asm) (by k_asm) S9 (by exact rfl) (by exact rfl) (by k_is) (by k_is) (by k_is) ?_; k_whole; intro x' d' h' F' N' S' l8 l9; (clear S9); (try k_sweep); k_enter))
  k_with "eval Dict nil nil" => (k_here; (with_reducible rename Sep _ _ => S9); k_dflt (refine' newDict_S (by k_asm) (by k_asm) S9 (by exact rfl) (by exact rfl) (TopRead.nolimit (by k_asm)) ?_; k_whole); intro d' h' o' F' N' S' l4 lo' hi' fi'; (try clear S9); (try k_sweep))
  k_with "call type:list" => (k_here; (with_reducible show wpAny _ _ (call (Value.type "list") [Value.ref _]) _ _ _); (with_reducible rename Sep _ _ => S9); k_dflt (refine' list_copyS (by k_asm) (by k_asm) S9 (by exact rfl) (by exact rfl) (by is_list) ?_ (by first | size_fits | ((rw [List.size_toArray, sizeLine_eq]); (simp only [List.length_append, List.length_cons, List.length_nil]); omega)); k_whole); intro D' c' h' F' N' S'; (try clear S9); (try k_sweep))
  k_with "con room" => first | k_dflt (exact Nat.le_of_ble_eq_true rfl) | k_dflt (exact room1 (by with_reducible assumption) rfl) | k_dflt (exact room2 (by with_reducible assumption) rfl) | k_dflt (exact room3 (by with_reducible assumption) rfl) | ((try simp only [depth_under_make, depth_under_kw, depth_in1, depth_deeper, depth_caller, units_in1, units_deeper, units_under_make, Around.mark_units, units_caller]); (try dsimp only); omega) | ((try simp only [Code.weight, Code.frames, Code.isCreation, Code.isGuard, Code.isCaller, Code.cUnits]); (try dsimp only); omega)
  k_with "call builtin:len" => (k_here; (with_reducible show wpAny _ _ (call (Value.builtin "len") [Value.ref _]) _ _ _); k_dflt (refine' kst_len (by k_asm) (by k_mem) rfl (by ((try simp only [List.length_append, List.length_cons, List.length_nil]); omega)) ?_; k_whole))
  trivial
theorem words_nt71 : True := by
  k_with "out" => first | exact Out.head | (apply Out.tail; walk_at "out")
  k_with "pk" => first | exact Pk.nil | (apply Pk.cons; walk_at "out"; walk_at "pk")
  k_with "tl" => first | assumption | exact List.mem_append_right _ (by assumption) | exact List.mem_append_left _ (by assumption) | (apply List.Mem.tail; walk_at "tl")
  k_with "con tl" => first | exact List.forall_mem_nil _ | (refine List.forall_mem_cons.mpr ⟨by k_mem, ?_⟩; walk_at "con tl") | (intro p9 h9; walk_at "tl")
  k_with "FinA" => ((unfold LCg.FinA); (with_reducible rename Sep _ _ => S9); intro D' h' tk' F' N' o1'; k_dflt (have S' := Sep.off1 S9 rfl rfl o1'); (clear o1' S9); (try simp only [List.nil_append, List.cons_append] at N'); (try dsimp only))
  k_with "FinE" => ((unfold LCg.FinE); (with_reducible rename Sep _ _ => S9); intro D' h' tk' F' N' o1'; k_dflt (have S' := Sep.off1 S9 rfl rfl o1'); (clear o1' S9); (try simp only [List.nil_append, List.cons_append] at N'); (try dsimp only))
  k_with "subscriptTail Name Constant ref int" => (k_here; (with_reducible show wpAny _ _ (subscriptTail _ _ (Value.ref _) (Value.int _ _)) _ _ _); k_dflt (refine' led_item (by k_asm) (by k_mem) (by decide) (by decide) (by first | exact i8_0 | exact i8_1 | exact i8_2 | exact i8_3 | exact i8_4) ?_ (by with_unfolding_all rfl); k_whole))
  k_with "CompSrc" => (k_here; k_dflt (refine LCg.CompSrc.ledger (by rfl) (by k_asm) (by k_asm) (by k_mem) (by exact Nat.le_of_ble_eq_true rfl) ?_); intro g'; lcg_lit)
  k_with "dk" => first | assumption | (refine' DictOK.put (by walk_at "dk"))
  k_with "dk get" => first | assumption | exact getL_hit | (refine' getL_miss' (by decide) (by walk_at "dk get")) | (refine' DictOK.isSome (by walk_at "dk"))
  trivial
local macro_rules | `(tactic| k_get) => `(tactic| walk_at "dk get")
theorem words_nt72 : True := by
  k_with "setAttr ref" => (k_here; k_dflt (refine' set_dict (by k_asm) (by k_asm) (by k_asm) (by k_inst) (by exact rfl) (by k_is) (by k_is) (by k_is) (by k_is) (by (refine' DictOK.isSome (by walk_at "dk"))) (by exact rfl) (by k_upd) (by (refine' DictOK.len (by walk_at "dk") (by omega))) ?_; k_whole; intro h' F' N'; (try k_sweep)))
  k_with "call ref" => (k_here; (with_reducible show wpAny _ _ (call (Value.ref 276) _) _ _ _); (with_reducible rename Sep _ _ => S9); k_dflt (refine' con_use (by k_asm) (by k_asm) (by k_asm) (by k_asm) (by k_asm) S9 (by walk_at "cut") (reach_ok _ _ _ _ _ _ _ _ _ _ _ _ _ _ _ (by omega) (by assumption)) (by exact rfl) (by exact rfl) (by walk_at "con room") (by walk_at "con room") (by exact rfl) (by exact rfl) (by exact rfl) (by first | assumption | exact rfl) (by exact fun _ _ _ => True.intro) ?_; k_whole); (intro n' h' tk' XX' F' fr' l4 lf'); (intro es'' n'' CC hX'); (have N' := lf' _ hX'); (clear hX'); (clear lf'); (clear XX'); (have S' := Fresh.none fr'); (clear fr'); (dsimp only [List.cons_append, List.nil_append] at N' S'); (have q_ok := CC.ok); (have q_types := CC.types); (have q_buf := CC.buf); (have q_pool := CC.pool); (have q_ft := CC.ft); (have q_m1 := CC.m1); (have q_m2 := CC.m2); (have q_m3 := CC.m3); (have q_m4 := CC.m4); (have q_m5 := CC.m5); (have q_m6 := CC.m6); (try clear S9); (try dsimp only); (try k_sweep))
  k_with "execs cons" => ((with_reducible show wpAny _ _ (execs (Stmt.Expr _ ⟨355, _, _, _⟩ :: _) _) _ _ _); with_unfolding_all (refine' tail9 _ _ _ _ _ _ _ _ _ _ _ _ _ _ _ _ _ _ _ _ _ _ _ _ _ _ _ _ _ _ _ _ _ _ _ _ _ _ _ _ _ _ _ _ _ _ _ _ _ _ _ _ _ _ _ _ _ _ _ (by first | assumption | exact rfl) (by first | assumption | exact rfl) (by first | assumption | exact rfl) (by (rename Fr _ _ _ _ => F9); exact F9) (by kst_all) (by with_reducible assumption) (by with_reducible assumption) (by (rename News _ _ _ _ => N9); refine News.pick N9 ?_; walk_at "con tl") (by (with_reducible rename Sep _ _ => S9); refine Sep.pk S9 ?_; walk_at "pk") (by first | assumption | passes_own) (by first | assumption | exact rfl) (by first | assumption | exact rfl) (by first | assumption | exact rfl) (by first | assumption | exact rfl) (by first | assumption | exact rfl) (by first | assumption | exact rfl) (by first | assumption | exact rfl) (by first | assumption | exact rfl) (by with_reducible assumption) (by first | assumption | exact rfl) (by first | assumption | exact rfl) (by first | assumption | exact rfl) (by first | assumption | exact rfl) (by first | assumption | exact rfl) (by first | assumption | exact rfl)))
  trivial
set_option maxHeartbeats 16000000 in
theorem tail7 (w : World) (mean : ExcName → Option Value) (mg mb : Str → Option Value) {base h₀ : Heap} {L fa : Addr} {cd : Value} {s : Shared} {Q : Flow → Shared → Prop} {E : Value → Shared → Prop} (m0 : Str → Option Value) (x dx b bd R p pd ow od qa sp ro ty ft a0 a1 a2 : Addr) (Ts : Led) (ces : List DictEntry) (cn nd nn oc ks kr ns : Nat) (su zs : List Value) (sl : List Int) (t s1 s2 s3 s4 tr tm u1 u2 u3 u4 uc t0 t1 t2 t3 t4 t5 t6 t7 tq : Tok) (r0 r1 r2 r3 r4 r5 r6 r7 k q middle : Int) (v : Value) (oo k1 k2 k3 : Obj) (B : Below callerA base [] h₀) (X : (hd.heap_39 w.params).In h₀) (T : Top hd.view_39 (looseW hd.view_39 []) mean mg mb h₀) (F : Fr h₀ L s.heap m0) (hnm : ∀ p ∈ [((Str.ofString "row", .ref ro) : Str × Value), ((Str.ofString "room_at", .int 3 tr) : Str × Value), ((Str.ofString "middle", .int middle tm) : Str × Value), ((Str.ofString "spare", .ref sp) : Str × Value)], m0 p.1 = some p.2) (hrA : RowsIn Ts [.ref a0, .ref a1, .ref a2] [.str 15 14 (-4), .str 11 14 (-8), .mov 11 14]) (hrZ : RowsIn Ts zs (zrows (0 - 8 - 4 * q) q.toNat)) (N : News h₀ L s.heap ((sp, listOf su.toArray ks) :: (x, instObj 379 dx) :: (dx, dictOf ces cn) :: (qa, tupOf [.str (Str.ofString "SUBI") s1, .int 14 s2, .int 14 s3, .int 0 s4]) :: (b, instObj 143 bd) :: (bd, dictOf [ent w "rows" t (.ref R)] nd) :: (R, listOf (.ref a0 :: .ref a1 :: .ref a2 :: .ref qa :: zs).toArray nn) :: (p, instObj 237 pd) :: (pd, dictOf [ent w "count" u1 (.int k uc), ent w "owner" u2 (.ref ow), ent w "order" u3 (.ref od), ent w "spiller" u4 v] 4) :: (ow, oo) :: (od, listOf #[] oc) :: (ro, listOf #[.int r0 t0, .int r1 t1, .int r2 t2, .int r3 t3, .int r4 t4, .int r5 t5, .int r6 t6, .int r7 t7] kr) :: (L + 1, k1) :: (L + 1 + 1, k2) :: (L + 1 + 1 + 1, k3) :: Ts)) (hS : Sep [sp, x, dx, qa, b, bd, R, p, pd, ow, od, ro, L + 1, L + 1 + 1, L + 1 + 1 + 1] Ts) (hE : PassesOwn (model PG w) (callerA.deeper (lawEnv L fa cd)) (lawEnv L fa cd) E) (hk1 : k1.data = .cell (some (.int q tq))) (hk2 : k2.data = .cell (some (.ref x))) (hk3 : k3.data = .cell none) (hr3 : 0 ≤ r3 ∧ r3 < 997) (hr4 : 0 ≤ r4 ∧ r4 < 997) (h0 : 0 ≤ q) (h9 : q ≤ 9) (hmid : middle = ((4 + (zrows (0 - 8 - 4 * q) q.toNat).length : Nat) : Int)) (C : CoderD ces ty b p ft (0 - 8 - 4 * q - 4 * (ns : Int)) (0 - 8 - 4 * q - 4 * (ns : Int)) 0) (hsu : IntsAre su sl) (hsm : sl.length = ns) (hs3 : ns ≤ 3) (hsb : ∀ v ∈ sl, 8 + 4 * q < 0 - v ∧ 0 - v ≤ 8 + 4 * q + 4 * (ns : Int)) (hzl : zs.length ≤ 7) (hq : ∀ h' tk, (∀ b o, h₀.get? b = some o → h'.get? b = some o) → Q (.ret (.bool true)) { s with heap := h', toks := tk }) :
    wpAny (model PG w) (callerA.deeper (lawEnv L fa cd)) (execs (lawBody.drop 7) (lawEnv L fa cd)) Q E s := by
  have D1 := C.ok
  have M1 := C.m1
  have M2 := C.m2
  have M3 := C.m3
  have M4 := C.m4
  have M5 := C.m5
  have M6 := C.m6
  have D2 := C.types
  have D3 := C.buf
  have D4 := C.pool
  have g1 : 0 ≤ Int.fmod r3 5 := fmod_lo r3 (by decide)
  have g2 : Int.fmod r3 5 < 5 := fmod_hi r3 (by decide)
  have g3 : 0 ≤ Int.fmod r4 50 := fmod_lo r4 (by decide)
  have g4 : Int.fmod r4 50 < 50 := fmod_hi r4 (by decide)
  walk_at "con fill"
  have F2 := frOf F hnm
  clear F hnm
  unfold lawEnv
  conv in (execs _ _) => arg 1; whnf
  conv in (occs := *) lawScope => all_goals whnf
  k_steps
theorem rows_nt6 : True := by
  w_top off
  k_with_none
  k_with "setat" => first | exact SetAt.head | (apply SetAt.tail; walk_at "setat")
  k_with "setF" => first | exact SetF.head | (apply SetF.tail; walk_at "setF")
  k_with "upd" => k_dflt (exact upd_sep (by with_reducible assumption) (by walk_at "setat") (by exact rfl) (by exact rfl))
  k_with "updF" => first | k_dflt (exact updF_sep (by with_reducible assumption) (by walk_at "setF") (by exact rfl) (by exact rfl)) | walk_at "updF2"
  k_with "cut" => first | exact Cut.nil | (apply Cut.take; walk_at "cut") | (apply Cut.keep; walk_at "cut")
  k_with "sub" => first | exact Sub.nil | (apply Sub.take; walk_at "sub") | (apply Sub.keep; walk_at "sub")
  k_with "con in" => repeat' (first | exact List.forall_mem_nil _ | refine List.forall_mem_cons.mpr ⟨by k_mem, ?_⟩)
  k_with "execs cons" => (k_here; (try k_made); (try k_gentoks); (refine wpAny_execs_cons (s := Shared.mk _ (Shared.gens s) (Shared.drawn s) _ (Shared.os s)) ?_); (try dsimp only); (try k_fold))
  k_with "con fill" => ((have hfill : PySem.Challenge.rw_pq0756_01 = PySem.Challenge.rw_pq0756_01 ∧ _root_.Mine.hd.heap_39 = _root_.Mine.hd.heap_39 := by (k_fill; exact ⟨rfl, rfl⟩)); clear hfill)
  k_with "con enter" => (refine' enter_def (w := _) (by assumption) (by assumption) (by assumption) (by assumption) (by assumption) (by assumption) (by assumption) (by (simp only [recursionLimit]; omega)) (by k_is) (by k_is) (by first | exact BindsTo.of_eq rfl | (refine' binds_K (by (refine' Frag.In.keeps (by assumption) (by assumption))) (by exact rfl) (by k_is) (by exact rfl) (by exact rfl) (by exact rfl)) | fail "con_enter: no rule for these arguments") (by exact locs rfl) (by exact rfl) ?_ (by exact rfl) (by exact rfl) (by exact rfl) (by decide); k_whole; intro L' h' Q9 E9 F' N' S' hE9 hQ9; (dsimp only [adrs, List.length_cons, List.length_nil] at S'); (try dsimp only))
  k_with "newTuple" => (k_here; (with_reducible rename Sep _ _ => S9); k_dflt (refine' newTuple_S (by k_asm) (by k_asm) S9 (by exact rfl) (by exact rfl) ?_; k_whole); intro l' h' F' N' S' l4; (try clear S9); (try k_sweep))
  k_with "newList" => (k_here; (with_reducible rename Sep _ _ => S9); k_dflt (refine' newList_S (by k_asm) (by k_asm) S9 (by exact rfl) (by exact rfl) ?_; k_whole); intro l' h' F' N' S' l4; (try clear S9); (try k_sweep))
  k_with "call ref" => (k_here; (with_reducible show wpAny _ _ (call (Value.ref _) _ _) _ _ _); (with_reducible rename Sep _ _ => S9); k_dflt (refine' call_clsS (by k_asm) (by k_asm) (by k_asm) S9 (by exact rfl) (by exact rfl) (by k_is) (by k_is) (by k_is) ?_; k_whole; intro x' d' h' F' N' S' l8 l9; (clear S9); (try k_sweep); k_enter))
  k_with "eval Dict nil nil" => (k_here; (with_reducible rename Sep _ _ => S9); k_dflt (refine' newDict_S (by k_asm) (by k_asm) S9 (by exact rfl) (by exact rfl) (TopRead.nolimit (by k_asm)) ?_; k_whole); intro d' h' o' F' N' S' l4 lo' hi' fi'; (try clear S9); (try k_sweep))
  k_with "call type:list" => (k_here; (with_reducible show wpAny _ _ (call (Value.type "list") [Value.ref _]) _ _ _); (with_reducible rename Sep _ _ => S9); k_dflt (refine' list_copyS (by k_asm) (by k_asm) S9 (by exact rfl) (by exact rfl) (by is_list) ?_ (by first | size_fits | ((rw [List.size_toArray, sizeLine_eq]); (simp only [List.length_append, List.length_cons, List.length_nil]); omega)); k_whole); intro D' c' h' F' N' S'; (try clear S9); (try k_sweep))
  k_with "con room" => first | k_dflt (exact Nat.le_of_ble_eq_true rfl) | k_dflt (exact room1 (by with_reducible assumption) rfl) | k_dflt (exact room2 (by with_reducible assumption) rfl) | k_dflt (exact room3 (by with_reducible assumption) rfl) | ((try simp only [depth_under_make, depth_under_kw, depth_in1, depth_deeper, depth_caller, units_in1, units_deeper, units_under_make, Around.mark_units, units_caller]); (try dsimp only); omega) | ((try simp only [Code.weight, Code.frames, Code.isCreation, Code.isGuard, Code.isCaller, Code.cUnits]); (try dsimp only); omega)
  k_with "call builtin:len" => (k_here; (with_reducible show wpAny _ _ (call (Value.builtin "len") [Value.ref _]) _ _ _); k_dflt (refine' kst_len (by k_asm) (by k_mem) rfl (by ((try simp only [List.length_append, List.length_cons, List.length_nil]); omega)) ?_; k_whole))
  trivial
theorem words_nt61 : True := by
  k_with "out" => first | exact Out.head | (apply Out.tail; walk_at "out")
  k_with "pk" => first | exact Pk.nil | (apply Pk.cons; walk_at "out"; walk_at "pk")
  k_with "tl" => first | assumption | exact List.mem_append_right _ (by assumption) | exact List.mem_append_left _ (by assumption) | (apply List.Mem.tail; walk_at "tl")
  k_with "con tl" => first | exact List.forall_mem_nil _ | (refine List.forall_mem_cons.mpr ⟨by k_mem, ?_⟩; walk_at "con tl") | (intro p9 h9; walk_at "tl")
  k_with "FinA" => ((unfold LCg.FinA); (with_reducible rename Sep _ _ => S9); intro D' h' tk' F' N' o1'; k_dflt (have S' := Sep.off1 S9 rfl rfl o1'); (clear o1' S9); (try simp only [List.nil_append, List.cons_append] at N'); (try dsimp only))
  k_with "FinE" => ((unfold LCg.FinE); (with_reducible rename Sep _ _ => S9); intro D' h' tk' F' N' o1'; k_dflt (have S' := Sep.off1 S9 rfl rfl o1'); (clear o1' S9); (try simp only [List.nil_append, List.cons_append] at N'); (try dsimp only))
  k_with "subscriptTail Name Constant ref int" => (k_here; (with_reducible show wpAny _ _ (subscriptTail _ _ (Value.ref _) (Value.int _ _)) _ _ _); k_dflt (refine' led_item (by k_asm) (by k_mem) (by decide) (by decide) (by first | exact i8_0 | exact i8_1 | exact i8_2 | exact i8_3 | exact i8_4) ?_ (by with_unfolding_all rfl); k_whole))
  k_with "CompSrc" => (k_here; k_dflt (refine LCg.CompSrc.ledger (by rfl) (by k_asm) (by k_asm) (by k_mem) (by exact Nat.le_of_ble_eq_true rfl) ?_); intro g'; lcg_lit)
  k_with "dk" => first | assumption | (refine' DictOK.put (by walk_at "dk"))
  k_with "dk get" => first | assumption | exact getL_hit | (refine' getL_miss' (by decide) (by walk_at "dk get")) | (refine' DictOK.isSome (by walk_at "dk"))
  trivial
local macro_rules | `(tactic| k_get) => `(tactic| walk_at "dk get")
theorem words_nt62 : True := by
  k_with "setAttr ref" => (k_here; k_dflt (refine' set_dict (by k_asm) (by k_asm) (by k_asm) (by k_inst) (by exact rfl) (by k_is) (by k_is) (by k_is) (by k_is) (by (refine' DictOK.isSome (by walk_at "dk"))) (by exact rfl) (by k_upd) (by (refine' DictOK.len (by walk_at "dk") (by omega))) ?_; k_whole; intro h' F' N'; (try k_sweep)))
  k_with "call ref" => (k_here; (with_reducible show wpAny _ _ (call (Value.ref 283) _) _ _ _); (with_reducible rename Sep _ _ => S9); k_dflt (refine' con_use (by k_asm) (by k_asm) (by k_asm) (by k_asm) (by k_asm) S9 (by walk_at "cut") (temp_ok _ _ _ _ _ _ _ _ _ _ _ _ _ _ (by assumption)) (by exact rfl) (by exact rfl) (by walk_at "con room") (by walk_at "con room") (by exact rfl) (by exact rfl) (by exact rfl) (by first | assumption | exact rfl) (by exact fun _ _ _ => True.intro) ?_; k_whole); (intro n' h' tk' XX' F' fr' l4 lf'); (intro es'' n'' t' CC hX'); (have N' := lf' _ hX'); (clear hX'); (clear lf'); (clear XX'); (have S' := Fresh.none fr'); (clear fr'); (dsimp only [List.cons_append, List.nil_append] at N' S'); (try clear S9); (try dsimp only); (try k_sweep))
  k_with "execs cons" => ((with_reducible show wpAny _ _ (execs (Stmt.Expr _ ⟨352, _, _, _⟩ :: _) _) _ _ _); with_unfolding_all (refine' tail7 _ _ _ _ _ _ _ _ _ _ _ _ _ _ _ _ _ _ _ _ _ _ _ _ _ _ _ _ _ _ _ _ _ _ _ _ _ _ _ _ _ _ _ _ _ _ _ _ _ _ _ _ _ _ _ _ _ _ _ _ _ _ _ _ _ _ _ _ _ _ _ (by first | assumption | exact rfl) (by first | assumption | exact rfl) (by first | assumption | exact rfl) (by (rename Fr _ _ _ _ => F9); exact F9) (by kst_all) (by with_reducible assumption) (by with_reducible assumption) (by (rename News _ _ _ _ => N9); refine News.pick N9 ?_; walk_at "con tl") (by (with_reducible rename Sep _ _ => S9); refine Sep.pk S9 ?_; walk_at "pk") (by first | assumption | passes_own) (by first | assumption | exact rfl) (by first | assumption | exact rfl) (by first | assumption | exact rfl) (by first | assumption | exact rfl) (by first | assumption | exact rfl) (by first | assumption | exact rfl) (by first | assumption | exact rfl) (by first | assumption | exact rfl) (by with_reducible assumption) (by first | assumption | exact rfl) (by first | assumption | exact rfl) (by omega) (by first | assumption | exact rfl) (by first | assumption | exact rfl) (by first | assumption | exact rfl)))
  k_with "call type:range" => (k_here; (rename Fr _ _ _ _ => F8); (rename News _ _ _ _ => N8); (with_unfolding_all refine' range1_rows F8 N8 ?_); intro h' tk' t1' u1' v1' rg' F' N' kp'; (clear F8 N8); (clear kp'))
  k_with "CompSrc" => (k_here; k_dflt (refine LCg.CompSrc.range (by rfl) (by k_asm) (by k_asm) (by assumption) (by exact hs1) (by exact hn1) (by exact hl1) ?_); intro g9; (with_reducible rename Sep _ _ => S9); k_dflt (refine' comp_ind (fun k9 i9 ys nx => ∃ ces9 cn9 sl9, nx = ((x, instObj 379 dx) :: (dx, dictOf ces9 cn9) :: (ft, listOf #[] 0) :: (qa, tupOf [.str (Str.ofString "SUBI") s1, .int 14 s2, .int 14 s3, .int 0 s4]) :: (b, instObj 143 bd) :: (bd, dictOf [ent w "rows" t (.ref R)] nd) :: (R, listOf (.ref a0 :: .ref a1 :: .ref a2 :: .ref qa :: zs).toArray nn) :: (p, instObj 237 pd) :: (pd, dictOf [ent w "count" u1 (.int k uc), ent w "owner" u2 (.ref ow), ent w "order" u3 (.ref od), ent w "spiller" u4 v] 4) :: (ow, oo) :: (od, listOf #[] oc) :: (ro, listOf #[.int r0 t0, .int r1 t1, .int r2 t2, .int r3 t3, .int r4 t4, .int r5 t5, .int r6 t6, .int r7 t7] kr) :: (L + 1, k1) :: (L + 1 + 1, k2) :: (L + 1 + 1 + 1, k3) :: Ts) ∧ CoderD ces9 ty b p ft (0 - 8 - 4 * q - 4 * (i9 : Int)) (0 - 8 - 4 * q - 4 * (i9 : Int)) 0 ∧ i9 + k9 = ns ∧ IntsAre ys sl9 ∧ sl9.length = i9 ∧ ∀ v ∈ sl9, 8 + 4 * q < 0 - v ∧ 0 - v ≤ 8 + 4 * q + 4 * (i9 : Int)) (fun i9 ys9 nx9 hJ9 => ?_) (fun k9 i9 ys9 nx9 hJ9 v9 I9 oI9 C9 oC9 D9 m9 h9 tk9 E9' hv9 hC9 hx9 F9' N9' off9 ne9 => ?_) _ _ _ _ ⟨ces, cn, [], rfl, coderD_eq C (by omega), (by omega), .nil, rfl, List.forall_mem_nil _⟩); (all_goals (obtain ⟨ces9, cn9, sl9, rfl, CC9, hik9, hI9, hl9, hb9⟩ := hJ9)); (all_goals ((have q_ok := CC9.ok); (have q_types := CC9.types); (have q_buf := CC9.buf); (have q_pool := CC9.pool); (have q_ft := CC9.ft); (have q_m1 := CC9.m1); (have q_m2 := CC9.m2); (have q_m3 := CC9.m3); (have q_m4 := CC9.m4); (have q_m5 := CC9.m5); (have q_m6 := CC9.m6))); rotate_left; (k_dflt (have S8 := Sep.off3 S9 rfl rfl off9 ne9); (clear off9 ne9 S9)); rotate_right)
  trivial
set_option maxHeartbeats 16000000 in
theorem tail6 (w : World) (mean : ExcName → Option Value) (mg mb : Str → Option Value) {base h₀ : Heap} {L fa : Addr} {cd : Value} {s : Shared} {Q : Flow → Shared → Prop} {E : Value → Shared → Prop} (m0 : Str → Option Value) (x dx b bd R p pd ow od qa ro ty ft a0 a1 a2 : Addr) (Ts : Led) (ces : List DictEntry) (cn nd nn oc kr : Nat) (zs : List Value) (t s1 s2 s3 s4 tr tm u1 u2 u3 u4 uc t0 t1 t2 t3 t4 t5 t6 t7 tq : Tok) (r0 r1 r2 r3 r4 r5 r6 r7 k q middle : Int) (v : Value) (oo k1 k2 k3 : Obj) (B : Below callerA base [] h₀) (X : (hd.heap_39 w.params).In h₀) (T : Top hd.view_39 (looseW hd.view_39 []) mean mg mb h₀) (F : Fr h₀ L s.heap m0) (hnm : ∀ p ∈ [((Str.ofString "row", .ref ro) : Str × Value), ((Str.ofString "room_at", .int 3 tr) : Str × Value), ((Str.ofString "middle", .int middle tm) : Str × Value)], m0 p.1 = some p.2) (hrA : RowsIn Ts [.ref a0, .ref a1, .ref a2] [.str 15 14 (-4), .str 11 14 (-8), .mov 11 14]) (hrZ : RowsIn Ts zs (zrows (0 - 8 - 4 * q) q.toNat)) (N : News h₀ L s.heap ((x, instObj 379 dx) :: (dx, dictOf ces cn) :: (ft, listOf #[] 0) :: (qa, tupOf [.str (Str.ofString "SUBI") s1, .int 14 s2, .int 14 s3, .int 0 s4]) :: (b, instObj 143 bd) :: (bd, dictOf [ent w "rows" t (.ref R)] nd) :: (R, listOf (.ref a0 :: .ref a1 :: .ref a2 :: .ref qa :: zs).toArray nn) :: (p, instObj 237 pd) :: (pd, dictOf [ent w "count" u1 (.int k uc), ent w "owner" u2 (.ref ow), ent w "order" u3 (.ref od), ent w "spiller" u4 v] 4) :: (ow, oo) :: (od, listOf #[] oc) :: (ro, listOf #[.int r0 t0, .int r1 t1, .int r2 t2, .int r3 t3, .int r4 t4, .int r5 t5, .int r6 t6, .int r7 t7] kr) :: (L + 1, k1) :: (L + 1 + 1, k2) :: (L + 1 + 1 + 1, k3) :: Ts)) (hS : Sep [x, dx, ft, qa, b, bd, R, p, pd, ow, od, ro, L + 1, L + 1 + 1, L + 1 + 1 + 1] Ts) (hE : PassesOwn (model PG w) (callerA.deeper (lawEnv L fa cd)) (lawEnv L fa cd) E) (hk1 : k1.data = .cell (some (.int q tq))) (hk2 : k2.data = .cell (some (.ref x))) (hk3 : k3.data = .cell none) (hr2 : 0 ≤ r2 ∧ r2 < 997) (hr3 : 0 ≤ r3 ∧ r3 < 997) (hr4 : 0 ≤ r4 ∧ r4 < 997) (h0 : 0 ≤ q) (h9 : q ≤ 9) (hmid : middle = ((4 + (zrows (0 - 8 - 4 * q) q.toNat).length : Nat) : Int)) (C : CoderD ces ty b p ft (0 - 8 - 4 * q) (0 - 8 - 4 * q) 0) (hzl : zs.length ≤ 7) (hq : ∀ h' tk, (∀ b o, h₀.get? b = some o → h'.get? b = some o) → Q (.ret (.bool true)) { s with heap := h', toks := tk }) :
    wpAny (model PG w) (callerA.deeper (lawEnv L fa cd)) (execs (lawBody.drop 6) (lawEnv L fa cd)) Q E s := by
  have D1 := C.ok
  have M1 := C.m1
  have M2 := C.m2
  have M3 := C.m3
  have M4 := C.m4
  have M5 := C.m5
  have M6 := C.m6
  have D2 := C.types
  have D3 := C.buf
  have D4 := C.pool
  have g1 : 0 ≤ Int.fmod r2 4 := fmod_lo r2 (by decide)
  have g2 : Int.fmod r2 4 < 4 := fmod_hi r2 (by decide)
  obtain ⟨ns, hns⟩ := Int.eq_ofNat_of_zero_le g1
  have hs1 : Builtin.Range.small 0 (Int.fmod r2 4) 1 = true := by rw [hns]; exact small_nat (by omega)
  have hn1 : Builtin.Range.rangeSize 0 (Int.fmod r2 4) 1 = ((ns : Nat) : Int) := by rw [hns]; exact size_nat
  have hl1 : ns ≤ sizeLine := by rw [sizeLine_eq]; omega
  walk_at "con fill"
  have F2 := frOf F hnm
  clear F hnm
  unfold lawEnv
  conv in (execs _ _) => arg 1; whnf
  conv in (occs := *) lawScope => all_goals whnf
  k_steps
  with_reducible rename Sep _ _ => S9
  rename Fr _ _ _ _ => F9
  rename News _ _ _ _ => N9
  refine' LCg.CompEnd.intro F9 N9 ((x, instObj 379 dx) :: (dx, dictOf es'' n'') :: (ft, listOf #[] 0) :: (qa, tupOf [.str (Str.ofString "SUBI") s1, .int 14 s2, .int 14 s3, .int 0 s4]) :: (b, instObj 143 bd) :: (bd, dictOf [ent w "rows" t (.ref R)] nd) :: (R, listOf (.ref a0 :: .ref a1 :: .ref a2 :: .ref qa :: zs).toArray nn) :: (p, instObj 237 pd) :: (pd, dictOf [ent w "count" u1 (.int k uc), ent w "owner" u2 (.ref ow), ent w "order" u3 (.ref od), ent w "spiller" u4 v] 4) :: (ow, oo) :: (od, listOf #[] oc) :: (ro, listOf #[.int r0 t0, .int r1 t1, .int r2 t2, .int r3 t3, .int r4 t4, .int r5 t5, .int r6 t6, .int r7 t7] kr) :: (L + 1, k1) :: (L + 1 + 1, k2) :: (L + 1 + 1 + 1, k3) :: Ts) ?c (off3_front (as := [x, dx, ft, qa, b, bd, R, p, pd, ow, od, ro, L + 1, L + 1 + 1, L + 1 + 1 + 1]) (S9.pk ?d) rfl rfl) True.intro ⟨_, _, sl9 ++ [_], rfl, coderD_eq CC (by omega), (by omega), ints_snoc hI9, (by simp [hl9]), ?e⟩
  case c => walk_at "con tl"
  case d => walk_at "pk"
  case e =>
    intro v hv
    rcases List.mem_append.mp hv with hv | hv
    · have := hb9 v hv; omega
    · rw [List.mem_singleton.mp hv]; omega
theorem rows_n14 : True := by
  w_top off
  k_with_none
  k_with "setat" => first | exact SetAt.head | (apply SetAt.tail; walk_at "setat")
  k_with "setF" => first | exact SetF.head | (apply SetF.tail; walk_at "setF")
  k_with "upd" => k_dflt (exact upd_sep (by with_reducible assumption) (by walk_at "setat") (by exact rfl) (by exact rfl))
  k_with "updF" => first | k_dflt (exact updF_sep (by with_reducible assumption) (by walk_at "setF") (by exact rfl) (by exact rfl)) | walk_at "updF2"
  k_with "cut" => first | exact Cut.nil | (apply Cut.take; walk_at "cut") | (apply Cut.keep; walk_at "cut")
  k_with "sub" => first | exact Sub.nil | (apply Sub.take; walk_at "sub") | (apply Sub.keep; walk_at "sub")
  k_with "con in" => repeat' (first | exact List.forall_mem_nil _ | refine List.forall_mem_cons.mpr ⟨by k_mem, ?_⟩)
  k_with "execs cons" => (k_here; (try k_made); (try k_gentoks); (refine wpAny_execs_cons (s := Shared.mk _ (Shared.gens s) (Shared.drawn s) _ (Shared.os s)) ?_); (try dsimp only); (try k_fold))
  k_with "con fill" => ((have hfill : PySem.Challenge.rw_pq0756_01 = PySem.Challenge.rw_pq0756_01 ∧ _root_.Mine.hd.heap_39 = _root_.Mine.hd.heap_39 := by (k_fill; exact ⟨rfl, rfl⟩)); clear hfill)
  k_with "con enter" => (refine' enter_def (w := _) (by assumption) (by assumption) (by assumption) (by assumption) (by assumption) (by assumption) (by assumption) (by (simp only [recursionLimit]; omega)) (by k_is) (by k_is) (by first | exact BindsTo.of_eq rfl | (refine' binds_K (by (refine' Frag.In.keeps (by assumption) (by assumption))) (by exact rfl) (by k_is) (by exact rfl) (by exact rfl) (by exact rfl)) | fail "con_enter: no rule for these arguments") (by exact locs rfl) (by exact rfl) ?_ (by exact rfl) (by exact rfl) (by exact rfl) (by decide); k_whole; intro L' h' Q9 E9 F' N' S' hE9 hQ9; (dsimp only [adrs, List.length_cons, List.length_nil] at S'); (try dsimp only))
  k_with "newTuple" => (k_here; (with_reducible rename Sep _ _ => S9); k_dflt (refine' newTuple_S (by k_asm) (by k_asm) S9 (by exact rfl) (by exact rfl) ?_; k_whole); intro l' h' F' N' S' l4; (try clear S9); (try k_sweep))
  k_with "newList" => (k_here; (with_reducible rename Sep _ _ => S9); k_dflt (refine' newList_S (by k_asm) (by k_asm) S9 (by exact rfl) (by exact rfl) ?_; k_whole); intro l' h' F' N' S' l4; (try clear S9); (try k_sweep))
  k_with "call ref" => (k_here; (with_reducible show wpAny _ _ (call (Value.ref _) _ _) _ _ _); (with_reducible rename Sep _ _ => S9); k_dflt (refine' call_clsS (by k_asm) (by k_asm) (by k_asm) S9 (by exact rfl) (by exact rfl) (by k_is) (by k_is) (by k_is) ?_; k_whole; intro x' d' h' F' N' S' l8 l9; (clear S9); (try k_sweep); k_enter))
  k_with "eval Dict nil nil" => (k_here; (with_reducible rename Sep _ _ => S9); k_dflt (refine' newDict_S (by k_asm) (by k_asm) S9 (by exact rfl) (by exact rfl) (TopRead.nolimit (by k_asm)) ?_; k_whole); intro d' h' o' F' N' S' l4 lo' hi' fi'; (try clear S9); (try k_sweep))
  k_with "call type:list" => (k_here; (with_reducible show wpAny _ _ (call (Value.type "list") [Value.ref _]) _ _ _); (with_reducible rename Sep _ _ => S9); k_dflt (refine' list_copyS (by k_asm) (by k_asm) S9 (by exact rfl) (by exact rfl) (by is_list) ?_ (by first | size_fits | ((rw [List.size_toArray, sizeLine_eq]); (simp only [List.length_append, List.length_cons, List.length_nil]); omega)); k_whole); intro D' c' h' F' N' S'; (try clear S9); (try k_sweep))
  k_with "con room" => first | k_dflt (exact Nat.le_of_ble_eq_true rfl) | k_dflt (exact room1 (by with_reducible assumption) rfl) | k_dflt (exact room2 (by with_reducible assumption) rfl) | k_dflt (exact room3 (by with_reducible assumption) rfl) | ((try simp only [depth_under_make, depth_under_kw, depth_in1, depth_deeper, depth_caller, units_in1, units_deeper, units_under_make, Around.mark_units, units_caller]); (try dsimp only); omega) | ((try simp only [Code.weight, Code.frames, Code.isCreation, Code.isGuard, Code.isCaller, Code.cUnits]); (try dsimp only); omega)
  k_with "call builtin:len" => (k_here; (with_reducible show wpAny _ _ (call (Value.builtin "len") [Value.ref _]) _ _ _); k_dflt (refine' kst_len (by k_asm) (by k_mem) rfl (by ((try simp only [List.length_append, List.length_cons, List.length_nil]); omega)) ?_; k_whole))
  trivial
local macro_rules | `(tactic| k_lt $h:ident) => `(tactic| (replace $h := allLt_of $h; (dsimp only [AllLt] at $h:ident)))
theorem words_n141 : True := by
  k_with "exec For Name Subscript cons nil" => (k_here; (rename Fr _ _ _ _ => lF'); (with_unfolding_all refine' For_invVF lF' (by exact rfl) (by exact rfl) ?_; k_whole))
  trivial
theorem row_snoc {items : List Int} {a : Int} (h : ∀ i ∈ items, 0 ≤ i ∧ i < 997) : ∀ i ∈ items ++ [Int.fmod a 997], 0 ≤ i ∧ i < 997 := by
  intro i hi
  rcases List.mem_append.mp hi with hi | hi
  · exact h i hi
  · rw [List.mem_singleton.mp hi]; exact ⟨fmod_lo a (by decide), fmod_hi a (by decide)⟩
theorem row_st1 {items pre : List Int} {a n : Int} (h1 : items.length = pre.length) (h : ∀ i ∈ items, 0 ≤ i ∧ i < 997) : (items ++ [Int.fmod a 997]).length = (pre ++ [n]).length ∧ ∀ i ∈ items ++ [Int.fmod a 997], 0 ≤ i ∧ i < 997 :=
  ⟨by simp [h1], row_snoc h⟩
theorem row_st2 {items : List Int} {a : Int} (h1 : items.length < 8) (h : ∀ i ∈ items, 0 ≤ i ∧ i < 997) : (items ++ [Int.fmod a 997]).length ≤ 8 ∧ (∀ i ∈ items ++ [Int.fmod a 997], 0 ≤ i ∧ i < 997) ∧ 0 ≤ Int.fmod a 997 ∧ Int.fmod a 997 < 997 :=
  ⟨by simp; omega, row_snoc h, fmod_lo a (by decide), fmod_hi a (by decide)⟩
abbrev row_post (w : World) (sc : Addr) (vs : List Value) (ns : List Int) : PostT := fun n G => ∀ (a : Addr) (us : List Value) (rs : List Int) (k : Nat), IntsAre us rs → rs.length = 8 → (∀ i ∈ rs, 0 ≤ i ∧ i < 997) → @LE.le Nat _ n a → G ([(a, listOf us.toArray k)]) (.ref a)
set_option maxHeartbeats 16000000 in
theorem row_ok (w : World) (mean : ExcName → Option Value) (mg mb : Str → Option Value) (sc : Addr) (vs : List Value) (ns : List Int) (hi : IntsAre vs ns) (hns : ns.length ≤ 63) :
    Con w mean mg mb 700 447 [.ref sc] (fun g => g.IsList sc vs.toArray) [] (row_post w sc vs ns) := by
  (k_with "pyIter ref" => (k_of "cell" => k_state (fun pre items => items.length = pre.length ∧ ∀ i ∈ items, 0 ≤ i ∧ i < 997) "row"))
  (k_with "pyIter ref" => (k_of "one" => k_state (fun pre t => 0 ≤ t ∧ t < 997) "twist"))
  (k_with "exec While Compare cons nil" => k_while (fun _ items t => items.length ≤ 8 ∧ (∀ i ∈ items, 0 ≤ i ∧ i < 997) ∧ 0 ≤ t ∧ t < 997) (fun _ items _ => 8 - items.length) "row" "twist")
  (k_with "state" => first
    | exact ⟨rfl, fun _ h => nomatch h⟩
    | exact row_st1 (by assumption) (by assumption)
    | exact row_st2 (by first | omega | (simp only [decide_eq_true_eq] at *; omega)) (by assumption)
    | exact ⟨fmod_lo _ (by decide), fmod_hi _ (by decide)⟩
    | exact ⟨by omega, by assumption, by omega, by omega⟩)
  walk_at "con fill"
  intro dp un gd frames base g s RR B X T hd hu hp hsz hk hA hn ret
  walk_at "con enter"
  k_steps
  all_goals (try dsimp only)
  rename Fr _ _ _ _ => F9
  rename News _ _ _ _ => N9
  have M9 := News.pick (l' := [_]) N9 (List.forall_mem_cons.mpr ⟨.tail _ (.head _), List.forall_mem_nil _⟩)
  exact hQ9 _ _ (ret _ _ F9.keep _ _ _ _ (by assumption) (by omega) (by assumption) (by assumption) (news_ends M9))
theorem ints8 {us : List Value} {rs : List Int} (h : IntsAre us rs) (hl : rs.length = 8) (hb : ∀ i ∈ rs, 0 ≤ i ∧ i < 997) :
    ∃ r0 r1 r2 r3 r4 r5 r6 r7 t0 t1 t2 t3 t4 t5 t6 t7, us = [.int r0 t0, .int r1 t1, .int r2 t2, .int r3 t3, .int r4 t4, .int r5 t5, .int r6 t6, .int r7 t7] ∧ (0 ≤ r0 ∧ r0 < 997) ∧ (0 ≤ r1 ∧ r1 < 997) ∧ (0 ≤ r2 ∧ r2 < 997) ∧ (0 ≤ r3 ∧ r3 < 997) ∧ (0 ≤ r4 ∧ r4 < 997) := by
  obtain _ | ⟨r0, t0, h⟩ := h
  · cases hl
  obtain _ | ⟨r1, t1, h⟩ := h
  · cases hl
  obtain _ | ⟨r2, t2, h⟩ := h
  · cases hl
  obtain _ | ⟨r3, t3, h⟩ := h
  · cases hl
  obtain _ | ⟨r4, t4, h⟩ := h
  · cases hl
  obtain _ | ⟨r5, t5, h⟩ := h
  · cases hl
  obtain _ | ⟨r6, t6, h⟩ := h
  · cases hl
  obtain _ | ⟨r7, t7, h⟩ := h
  · cases hl
  obtain _ | ⟨r8, t8, h⟩ := h
  · simp only [List.forall_mem_cons] at hb
    exact ⟨r0, r1, r2, r3, r4, r5, r6, r7, t0, t1, t2, t3, t4, t5, t6, t7, rfl, hb.1, hb.2.1, hb.2.2.1, hb.2.2.2.1, hb.2.2.2.2.1⟩
  · simp at hl
abbrev row8_post (w : World) (sc : Addr) (vs : List Value) (ns : List Int) : PostT := fun n G => ∀ (a : Addr) (r0 r1 r2 r3 r4 r5 r6 r7 : Int) (t0 t1 t2 t3 t4 t5 t6 t7 : Tok) (k : Nat), ((0 ≤ r0 ∧ r0 < 997) ∧ (0 ≤ r1 ∧ r1 < 997) ∧ (0 ≤ r2 ∧ r2 < 997) ∧ (0 ≤ r3 ∧ r3 < 997) ∧ (0 ≤ r4 ∧ r4 < 997)) → @LE.le Nat _ n a → G ([(a, listOf #[.int r0 t0, .int r1 t1, .int r2 t2, .int r3 t3, .int r4 t4, .int r5 t5, .int r6 t6, .int r7 t7] k)]) (.ref a)
theorem row8_ok (w : World) (mean : ExcName → Option Value) (mg mb : Str → Option Value) (sc : Addr) (vs : List Value) (ns : List Int) (hi : IntsAre vs ns) (hns : ns.length ≤ 63) :
    Con w mean mg mb 700 447 [.ref sc] (fun g => g.IsList sc vs.toArray) [] (row8_post w sc vs ns) :=
  (row_ok w mean mg mb sc vs ns hi hns).mono (Nat.le_refl _) (fun _ h => h) fun n G h a us rs k h1 h2 h3 h4 => by
    obtain ⟨r0, r1, r2, r3, r4, r5, r6, r7, t0, t1, t2, t3, t4, t5, t6, t7, rfl, b0, b1, b2, b3, b4⟩ := ints8 h1 h2 h3
    exact h a r0 r1 r2 r3 r4 r5 r6 r7 t0 t1 t2 t3 t4 t5 t6 t7 k ⟨b0, b1, b2, b3, b4⟩ h4
local macro_rules | `(tactic| k_lt $h:ident) => `(tactic| ((with_reducible rename Sep _ _ => S9); k_dflt (have S8 := Sep.push S9 $h rfl rfl); (clear S9); (clear $h)))
theorem rows_nt0 : True := by
  w_top off
  k_with_none
  k_with "setat" => first | exact SetAt.head | (apply SetAt.tail; walk_at "setat")
  k_with "setF" => first | exact SetF.head | (apply SetF.tail; walk_at "setF")
  k_with "upd" => k_dflt (exact upd_sep (by with_reducible assumption) (by walk_at "setat") (by exact rfl) (by exact rfl))
  k_with "updF" => first | k_dflt (exact updF_sep (by with_reducible assumption) (by walk_at "setF") (by exact rfl) (by exact rfl)) | walk_at "updF2"
  k_with "cut" => first | exact Cut.nil | (apply Cut.take; walk_at "cut") | (apply Cut.keep; walk_at "cut")
  k_with "sub" => first | exact Sub.nil | (apply Sub.take; walk_at "sub") | (apply Sub.keep; walk_at "sub")
  k_with "con in" => repeat' (first | exact List.forall_mem_nil _ | refine List.forall_mem_cons.mpr ⟨by k_mem, ?_⟩)
  k_with "execs cons" => (k_here; (try k_made); (try k_gentoks); (refine wpAny_execs_cons (s := Shared.mk _ (Shared.gens s) (Shared.drawn s) _ (Shared.os s)) ?_); (try dsimp only); (try k_fold))
  k_with "con fill" => ((have hfill : PySem.Challenge.rw_pq0756_01 = PySem.Challenge.rw_pq0756_01 ∧ _root_.Mine.hd.heap_39 = _root_.Mine.hd.heap_39 := by (k_fill; exact ⟨rfl, rfl⟩)); clear hfill)
  k_with "con enter" => (refine' enter_def (w := _) (by assumption) (by assumption) (by assumption) (by assumption) (by assumption) (by assumption) (by assumption) (by (simp only [recursionLimit]; omega)) (by k_is) (by k_is) (by first | exact BindsTo.of_eq rfl | (refine' binds_K (by (refine' Frag.In.keeps (by assumption) (by assumption))) (by exact rfl) (by k_is) (by exact rfl) (by exact rfl) (by exact rfl)) | fail "con_enter: no rule for these arguments") (by exact locs rfl) (by exact rfl) ?_ (by exact rfl) (by exact rfl) (by exact rfl) (by decide); k_whole; intro L' h' Q9 E9 F' N' S' hE9 hQ9; (dsimp only [adrs, List.length_cons, List.length_nil] at S'); (try dsimp only))
  k_with "newTuple" => (k_here; (with_reducible rename Sep _ _ => S9); k_dflt (refine' newTuple_S (by k_asm) (by k_asm) S9 (by exact rfl) (by exact rfl) ?_; k_whole); intro l' h' F' N' S' l4; (try clear S9); (try k_sweep))
  k_with "newList" => (k_here; (with_reducible rename Sep _ _ => S9); k_dflt (refine' newList_S (by k_asm) (by k_asm) S9 (by exact rfl) (by exact rfl) ?_; k_whole); intro l' h' F' N' S' l4; (try clear S9); (try k_sweep))
  k_with "call ref" => (k_here; (with_reducible show wpAny _ _ (call (Value.ref _) _ _) _ _ _); (with_reducible rename Sep _ _ => S9); k_dflt (refine' call_clsS (by k_asm) (by k_asm) (by k_asm) S9 (by exact rfl) (by exact rfl) (by k_is) (by k_is) (by k_is) ?_; k_whole; intro x' d' h' F' N' S' l8 l9; (clear S9); (try k_sweep); k_enter))
  k_with "eval Dict nil nil" => (k_here; (with_reducible rename Sep _ _ => S9); k_dflt (refine' newDict_S (by k_asm) (by k_asm) S9 (by exact rfl) (by exact rfl) (TopRead.nolimit (by k_asm)) ?_; k_whole); intro d' h' o' F' N' S' l4 lo' hi' fi'; (try clear S9); (try k_sweep))
  k_with "call type:list" => (k_here; (with_reducible show wpAny _ _ (call (Value.type "list") [Value.ref _]) _ _ _); (with_reducible rename Sep _ _ => S9); k_dflt (refine' list_copyS (by k_asm) (by k_asm) S9 (by exact rfl) (by exact rfl) (by is_list) ?_ (by first | size_fits | ((rw [List.size_toArray, sizeLine_eq]); (simp only [List.length_append, List.length_cons, List.length_nil]); omega)); k_whole); intro D' c' h' F' N' S'; (try clear S9); (try k_sweep))
  k_with "con room" => first | k_dflt (exact Nat.le_of_ble_eq_true rfl) | k_dflt (exact room1 (by with_reducible assumption) rfl) | k_dflt (exact room2 (by with_reducible assumption) rfl) | k_dflt (exact room3 (by with_reducible assumption) rfl) | ((try simp only [depth_under_make, depth_under_kw, depth_in1, depth_deeper, depth_caller, units_in1, units_deeper, units_under_make, Around.mark_units, units_caller]); (try dsimp only); omega) | ((try simp only [Code.weight, Code.frames, Code.isCreation, Code.isGuard, Code.isCaller, Code.cUnits]); (try dsimp only); omega)
  k_with "call builtin:len" => (k_here; (with_reducible show wpAny _ _ (call (Value.builtin "len") [Value.ref _]) _ _ _); k_dflt (refine' kst_len (by k_asm) (by k_mem) rfl (by ((try simp only [List.length_append, List.length_cons, List.length_nil]); omega)) ?_; k_whole))
  trivial
theorem words_nt01 : True := by
  k_with "out" => first | exact Out.head | (apply Out.tail; walk_at "out")
  k_with "pk" => first | exact Pk.nil | (apply Pk.cons; walk_at "out"; walk_at "pk")
  k_with "tl" => first | assumption | exact List.mem_append_right _ (by assumption) | exact List.mem_append_left _ (by assumption) | (apply List.Mem.tail; walk_at "tl")
  k_with "con tl" => first | exact List.forall_mem_nil _ | (refine List.forall_mem_cons.mpr ⟨by k_mem, ?_⟩; walk_at "con tl") | (intro p9 h9; walk_at "tl")
  k_with "FinA" => ((unfold LCg.FinA); (with_reducible rename Sep _ _ => S9); intro D' h' tk' F' N' o1'; k_dflt (have S' := Sep.off1 S9 rfl rfl o1'); (clear o1' S9); (try simp only [List.nil_append, List.cons_append] at N'); (try dsimp only))
  k_with "FinE" => ((unfold LCg.FinE); (with_reducible rename Sep _ _ => S9); intro D' h' tk' F' N' o1'; k_dflt (have S' := Sep.off1 S9 rfl rfl o1'); (clear o1' S9); (try simp only [List.nil_append, List.cons_append] at N'); (try dsimp only))
  k_with "dk" => first | assumption | (refine' DictOK.put (by walk_at "dk"))
  k_with "dk get" => first | assumption | exact getL_hit | (refine' getL_miss' (by decide) (by walk_at "dk get")) | (refine' DictOK.isSome (by walk_at "dk"))
  trivial
local macro_rules | `(tactic| k_get) => `(tactic| walk_at "dk get")
theorem words_nt02 : True := by
  k_with "setAttr ref" => (k_here; k_dflt (refine' set_dict (by k_asm) (by k_asm) (by k_asm) (by k_inst) (by exact rfl) (by k_is) (by k_is) (by k_is) (by k_is) (by (refine' DictOK.isSome (by walk_at "dk"))) (by exact rfl) (by k_upd) (by (refine' DictOK.len (by walk_at "dk") (by omega))) ?_; k_whole; intro h' F' N'; (try k_sweep)))
  k_with "subscriptTail Name Constant ref int" => (k_here; (with_reducible show wpAny _ _ (subscriptTail _ _ (Value.ref _) (Value.int _ _)) _ _ _); k_dflt (refine' led_item (by k_asm) (by k_mem) (by decide) (by decide) (by first | exact i8_0 | exact i8_1 | exact i8_2 | exact i8_3 | exact i8_4) ?_ (by with_unfolding_all rfl); k_whole))
  k_with "CompSrc" => (k_here; k_dflt (refine LCg.CompSrc.ledger (by rfl) (by k_asm) (by k_asm) (by k_mem) (by exact Nat.le_of_ble_eq_true rfl) ?_); intro g'; lcg_lit)
  k_with "call ref" => (k_here; (with_reducible show wpAny _ _ (call (Value.ref 447) _) _ _ _); (with_reducible rename Sep _ _ => S9); k_dflt (refine' con_use (by k_asm) (by k_asm) (by k_asm) (by k_asm) (by k_asm) S9 (by walk_at "cut") (row8_ok _ _ _ _ _ _ _ (by assumption) (by omega)) (by exact rfl) (by exact rfl) (by walk_at "con room") (by walk_at "con room") (by exact rfl) (by exact rfl) (by exact rfl) (by first | assumption | exact rfl) (by exact fun _ hk _ => Mine.isList_at (by assumption) fun o e => hk _ o e) ?_; k_whole); (intro n' h' tk' XX' F' fr' l4 lf'); (intro a' r0' r1' r2' r3' r4' r5' r6' r7' t0' t1' t2' t3' t4' t5' t6' t7' k' hb l5 hX'); (have N' := lf' _ hX'); (clear hX'); (clear lf'); (clear XX'); (have S' := Fresh.one fr' l5); (clear fr'); (replace l5 := Nat.le_trans l4 l5); (dsimp only [List.cons_append, List.nil_append] at N' S'); (try clear S9); (try dsimp only); (try k_sweep))
  k_with "call ref" => (k_here; (with_reducible show wpAny _ _ (call (Value.ref 436) _) _ _ _); (with_reducible rename Sep _ _ => S9); k_dflt (refine' call_clsS (by k_asm) (by k_asm) (by k_asm) S9 (by exact rfl) (by exact rfl) (by k_is) (by k_is) (by k_is) ?_; k_whole); (intro x' d' h' F' N' S' l8 l9); (clear S9); (try k_sweep); (with_reducible rename Sep _ _ => S9); k_dflt (refine' con_useC (by k_asm) (by k_asm) (by k_asm) (by k_asm) (by k_asm) S9 (by walk_at "cut") (types_ok _ _ _ _ _ _) (by exact rfl) (by exact rfl) (by walk_at "con room") (by walk_at "con room") (by exact rfl) (by exact rfl) (by exact rfl) (by first | assumption | exact rfl) (by exact fun _ _ _ => True.intro) ?_; k_whole); (intro n' h' tk' XX' F' fr' l4 lf'); (intro es' k' v' hg dk hX'); (have N' := lf' _ hX'); (clear hX'); (clear lf'); (clear XX'); (have S' := Fresh.none fr'); (clear fr'); (dsimp only [List.cons_append, List.nil_append] at N' S'); (try clear S9); (try dsimp only [InitBack]); (try refine ⟨rfl, ?_⟩); (try dsimp only); (try k_sweep))
  k_with "call ref" => (k_here; (with_reducible show wpAny _ _ (call (Value.ref 379) _) _ _ _); (with_reducible rename Sep _ _ => S9); k_dflt (refine' call_clsS (by k_asm) (by k_asm) (by k_asm) S9 (by exact rfl) (by exact rfl) (by k_is) (by k_is) (by k_is) ?_; k_whole); (intro x' d' h' F' N' S' l8 l9); (clear S9); (try k_sweep); (with_reducible rename Sep _ _ => S9); k_dflt (refine' con_useC (by k_asm) (by k_asm) (by k_asm) (by k_asm) (by k_asm) S9 (by walk_at "cut") (coder_ok _ _ _ _ _ _ _ _ _ _) (by exact rfl) (by exact rfl) (by walk_at "con room") (by walk_at "con room") (by exact rfl) (by exact rfl) (by exact rfl) (by first | assumption | exact rfl) (by exact fun _ _ _ => True.intro) ?_; k_whole); (intro n' h' tk' XX' F' fr' l4 lf'); (intro es' nn' b' bd' t' R' p' pd' t1' t2' t3' t4' tc' v' ow' oo' od' CC hdo hfo hlo hnd hge hX'); (have N' := lf' _ hX'); (clear hX'); (clear lf'); (clear XX'); (have S' := Fresh.many fr' hnd hge); (clear hnd hge); (clear fr'); (dsimp only [List.cons_append, List.nil_append] at N' S'); (have q_ok := CC.ok); (have q_types := CC.types); (have q_buf := CC.buf); (have q_pool := CC.pool); (have q_m1 := CC.m1); (have q_m2 := CC.m2); (have q_m3 := CC.m3); (have q_m4 := CC.m4); (have q_m5 := CC.m5); (have q_m6 := CC.m6); (try clear S9); (try dsimp only [InitBack]); (try refine ⟨rfl, ?_⟩); (try dsimp only); (try k_sweep))
  k_with "call ref" => (k_here; (with_reducible show wpAny _ _ (call (Value.ref 262) _) _ _ _); (with_reducible rename Sep _ _ => S9); k_dflt (refine' con_use (by k_asm) (by k_asm) (by k_asm) (by k_asm) (by k_asm) S9 (by walk_at "cut") (enter_ok _ _ _ _ _ _ _ _ _ _ _ _ _ _ _ (by assumption)) (by exact rfl) (by exact rfl) (by walk_at "con room") (by walk_at "con room") (by exact rfl) (by exact rfl) (by exact rfl) (by first | assumption | exact rfl) (by exact fun _ _ _ => True.intro) ?_; k_whole); (intro n' h' tk' XX' F' fr' l4 lf'); (intro es'' n'' ft' CC l5 hX'); (have N' := lf' _ hX'); (clear hX'); (clear lf'); (clear XX'); (have S' := Fresh.one fr' l5); (clear fr'); (replace l5 := Nat.le_trans l4 l5); (dsimp only [List.cons_append, List.nil_append] at N' S'); (have q_ok := CC.ok); (have q_types := CC.types); (have q_buf := CC.buf); (have q_pool := CC.pool); (have q_ft := CC.ft); (have q_m1 := CC.m1); (have q_m2 := CC.m2); (have q_m3 := CC.m3); (have q_m4 := CC.m4); (have q_m5 := CC.m5); (have q_m6 := CC.m6); (try clear S9); (try dsimp only); (try k_sweep))
  k_with "call ref" => (k_here; (with_reducible show wpAny _ _ (call (Value.ref 70) _) _ _ _); (with_reducible rename Sep _ _ => S9); k_dflt (refine' con_use (by k_asm) (by k_asm) (by k_asm) (by k_asm) (by k_asm) S9 (by walk_at "cut") (begin_ok _ _ _ _ _ _ _ _ _ _ _ _ _ _ _ _ _ _ _ _ _ _ _ _ _ _ _ _ _ _ _ _ _ _ _ _ _ (by assumption) (by assumption) (by assumption) (by first | assumption | exact fm7lo _ | exact fm7hi _) (by first | assumption | exact fm7lo _ | exact fm7hi _) (by assumption) (by assumption) (by assumption) (by first | assumption | exact fmod_lo _ (by decide)) (by first | assumption | exact fm9 _)) (by exact rfl) (by exact rfl) (by walk_at "con room") (by walk_at "con room") (by exact rfl) (by exact rfl) (by exact rfl) (by first | assumption | exact rfl) (by exact fun _ _ _ => True.intro) ?_; k_whole); (intro n' h' tk' XX' F' fr' l4 lf'); (intro Ts' zs' a0' a1' a2' qa' s1' s2' s3' s4' tr' nn'' oo'' oc'' hrA hrZ hle l5 hqe hX'); (have N' := News.tl0 (lf' _ hX')); (clear hX'); (clear lf'); (clear XX'); (have S' := Fresh.one_tail0 fr' l5 hle hqe); (clear fr'); (replace l5 := Nat.le_trans l4 l5); (dsimp only [List.cons_append, List.nil_append] at N' S'); (have hzl := RowsIn.z7 hrZ); (try clear S9); (try dsimp only); (try k_sweep))
  k_with "call ref" => (k_here; (with_reducible show wpAny _ _ (call (Value.ref 105) _) _ _ _); (with_reducible rename Sep _ _ => S9); k_dflt (refine' con_use (by k_asm) (by k_asm) (by k_asm) (by k_asm) (by k_asm) S9 (by walk_at "cut") (here_ok _ _ _ _ _ _ _ _ _ _ _ (by first | assumption | omega | ((simp only [List.length_append, List.length_cons, List.length_nil]); omega))) (by exact rfl) (by exact rfl) (by walk_at "con room") (by walk_at "con room") (by exact rfl) (by exact rfl) (by exact rfl) (by first | assumption | exact rfl) (by exact fun _ _ _ => True.intro) ?_; k_whole); (intro n' h' tk' XX' F' fr' l4 lf'); (intro tk' hX'); (have N' := lf' _ hX'); (clear hX'); (clear lf'); (clear XX'); (have S' := Fresh.none fr'); (clear fr'); (dsimp only [List.cons_append, List.nil_append] at N' S'); (try clear S9); (try dsimp only); (try k_sweep))
  k_with "execs cons" => ((with_reducible show wpAny _ _ (execs (Stmt.Assign _ _ ⟨351, _, _, _⟩ :: _) _) _ _ _); with_unfolding_all (refine' tail6 _ _ _ _ _ _ _ _ _ _ _ _ _ _ _ _ _ _ _ _ _ _ _ _ _ _ _ _ _ _ _ _ _ _ _ _ _ _ _ _ _ _ _ _ _ _ _ _ _ _ _ _ _ _ _ _ _ _ _ _ _ _ _ _ _ _ (by first | assumption | exact rfl) (by first | assumption | exact rfl) (by first | assumption | exact rfl) (by (rename Fr _ _ _ _ => F9); exact F9) (by kst_all) (by with_reducible assumption) (by with_reducible assumption) (by (rename News _ _ _ _ => N9); refine News.pick N9 ?_; walk_at "con tl") (by (with_reducible rename Sep _ _ => S9); refine Sep.pk S9 ?_; walk_at "pk") (by first | assumption | passes_own) (by first | assumption | exact rfl) (by first | assumption | exact rfl) (by first | assumption | exact rfl) (by omega) (by omega) (by omega) (by exact fmod_lo _ (by decide)) (by exact fm9 _) (by exact mid_eq (by with_reducible assumption)) (by with_reducible assumption) (by exact RowsIn.z7 (by with_reducible assumption)) (by first | assumption | exact rfl)))
  trivial
set_option maxHeartbeats 16000000 in
theorem tail0 (w : World) (mean : ExcName → Option Value) (mg mb : Str → Option Value) {base h₀ : Heap} {L fa : Addr} {cd : Value} {s : Shared} {Q : Flow → Shared → Prop} {E : Value → Shared → Prop} (m0 : Str → Option Value) (k1 k2 k3 : Obj) (sc : Addr) (vs : List Value) (ns : List Int) (B : Below callerA base [] h₀) (X : (hd.heap_39 w.params).In h₀) (T : Top hd.view_39 (looseW hd.view_39 []) mean mg mb h₀) (F : Fr h₀ L s.heap m0) (hnm : ∀ p ∈ [((Str.ofString "script", .ref sc) : Str × Value)], m0 p.1 = some p.2) (N : News h₀ L s.heap ((L + 1, k1) :: (L + 1 + 1, k2) :: (L + 1 + 1 + 1, k3) :: [])) (hS : Sep [L + 1, L + 1 + 1, L + 1 + 1 + 1] []) (hE : PassesOwn (model PG w) (callerA.deeper (lawEnv L fa cd)) (lawEnv L fa cd) E) (hk1 : k1.data = .cell none) (hk2 : k2.data = .cell none) (hk3 : k3.data = .cell none) (hI : IntsAre vs ns) (hns : ns.length ≤ 63) (hl : h₀.IsList sc vs.toArray) (hq : ∀ h' tk, (∀ b o, h₀.get? b = some o → h'.get? b = some o) → Q (.ret (.bool true)) { s with heap := h', toks := tk }) :
    wpAny (model PG w) (callerA.deeper (lawEnv L fa cd)) (execs (lawBody.drop 0) (lawEnv L fa cd)) Q E s := by
  walk_at "con fill"
  have F2 := frOf F hnm
  clear F hnm
  unfold lawEnv
  conv in (execs _ _) => arg 1; whnf
  conv in (occs := *) lawScope => all_goals whnf
  k_steps
theorem rows_nlaw : True := by
  w_top off
  k_with_none
  k_with "setat" => first | exact SetAt.head | (apply SetAt.tail; walk_at "setat")
  k_with "setF" => first | exact SetF.head | (apply SetF.tail; walk_at "setF")
  k_with "upd" => k_dflt (exact upd_sep (by with_reducible assumption) (by walk_at "setat") (by exact rfl) (by exact rfl))
  k_with "updF" => first | k_dflt (exact updF_sep (by with_reducible assumption) (by walk_at "setF") (by exact rfl) (by exact rfl)) | walk_at "updF2"
  k_with "cut" => first | exact Cut.nil | (apply Cut.take; walk_at "cut") | (apply Cut.keep; walk_at "cut")
  k_with "sub" => first | exact Sub.nil | (apply Sub.take; walk_at "sub") | (apply Sub.keep; walk_at "sub")
  k_with "con in" => repeat' (first | exact List.forall_mem_nil _ | refine List.forall_mem_cons.mpr ⟨by k_mem, ?_⟩)
  k_with "execs cons" => (k_here; (try k_made); (try k_gentoks); (refine wpAny_execs_cons (s := Shared.mk _ (Shared.gens s) (Shared.drawn s) _ (Shared.os s)) ?_); (try dsimp only); (try k_fold))
  k_with "con fill" => ((have hfill : PySem.Challenge.rw_pq0756_01 = PySem.Challenge.rw_pq0756_01 ∧ _root_.Mine.hd.heap_39 = _root_.Mine.hd.heap_39 := by (k_fill; exact ⟨rfl, rfl⟩)); clear hfill)
  k_with "con enter" => (refine' enter_def (w := _) (by assumption) (by assumption) (by assumption) (by assumption) (by assumption) (by assumption) (by assumption) (by (simp only [recursionLimit]; omega)) (by k_is) (by k_is) (by first | exact BindsTo.of_eq rfl | (refine' binds_K (by (refine' Frag.In.keeps (by assumption) (by assumption))) (by exact rfl) (by k_is) (by exact rfl) (by exact rfl) (by exact rfl)) | fail "con_enter: no rule for these arguments") (by exact locs rfl) (by exact rfl) ?_ (by exact rfl) (by exact rfl) (by exact rfl) (by decide); k_whole; intro L' h' Q9 E9 F' N' S' hE9 hQ9; (dsimp only [adrs, List.length_cons, List.length_nil] at S'); (try dsimp only))
  k_with "newTuple" => (k_here; (with_reducible rename Sep _ _ => S9); k_dflt (refine' newTuple_S (by k_asm) (by k_asm) S9 (by exact rfl) (by exact rfl) ?_; k_whole); intro l' h' F' N' S' l4; (try clear S9); (try k_sweep))
  k_with "newList" => (k_here; (with_reducible rename Sep _ _ => S9); k_dflt (refine' newList_S (by k_asm) (by k_asm) S9 (by exact rfl) (by exact rfl) ?_; k_whole); intro l' h' F' N' S' l4; (try clear S9); (try k_sweep))
  k_with "call ref" => (k_here; (with_reducible show wpAny _ _ (call (Value.ref _) _ _) _ _ _); (with_reducible rename Sep _ _ => S9); k_dflt (refine' call_clsS (by k_asm) (by k_asm) (by k_asm) S9 (by exact rfl) (by exact rfl) (by k_is) (by k_is) (by k_is) ?_; k_whole; intro x' d' h' F' N' S' l8 l9; (clear S9); (try k_sweep); k_enter))
  k_with "eval Dict nil nil" => (k_here; (with_reducible rename Sep _ _ => S9); k_dflt (refine' newDict_S (by k_asm) (by k_asm) S9 (by exact rfl) (by exact rfl) (TopRead.nolimit (by k_asm)) ?_; k_whole); intro d' h' o' F' N' S' l4 lo' hi' fi'; (try clear S9); (try k_sweep))
  k_with "call type:list" => (k_here; (with_reducible show wpAny _ _ (call (Value.type "list") [Value.ref _]) _ _ _); (with_reducible rename Sep _ _ => S9); k_dflt (refine' list_copyS (by k_asm) (by k_asm) S9 (by exact rfl) (by exact rfl) (by is_list) ?_ (by first | size_fits | ((rw [List.size_toArray, sizeLine_eq]); (simp only [List.length_append, List.length_cons, List.length_nil]); omega)); k_whole); intro D' c' h' F' N' S'; (try clear S9); (try k_sweep))
  k_with "con room" => first | k_dflt (exact Nat.le_of_ble_eq_true rfl) | k_dflt (exact room1 (by with_reducible assumption) rfl) | k_dflt (exact room2 (by with_reducible assumption) rfl) | k_dflt (exact room3 (by with_reducible assumption) rfl) | ((try simp only [depth_under_make, depth_under_kw, depth_in1, depth_deeper, depth_caller, units_in1, units_deeper, units_under_make, Around.mark_units, units_caller]); (try dsimp only); omega) | ((try simp only [Code.weight, Code.frames, Code.isCreation, Code.isGuard, Code.isCaller, Code.cUnits]); (try dsimp only); omega)
  k_with "call builtin:len" => (k_here; (with_reducible show wpAny _ _ (call (Value.builtin "len") [Value.ref _]) _ _ _); k_dflt (refine' kst_len (by k_asm) (by k_mem) rfl (by ((try simp only [List.length_append, List.length_cons, List.length_nil]); omega)) ?_; k_whole))
  trivial
theorem words_nlaw1 : True := by
  k_with "out" => first | exact Out.head | (apply Out.tail; walk_at "out")
  k_with "pk" => first | exact Pk.nil | (apply Pk.cons; walk_at "out"; walk_at "pk")
  k_with "tl" => first | assumption | exact List.mem_append_right _ (by assumption) | exact List.mem_append_left _ (by assumption) | (apply List.Mem.tail; walk_at "tl")
  k_with "con tl" => first | exact List.forall_mem_nil _ | (refine List.forall_mem_cons.mpr ⟨by k_mem, ?_⟩; walk_at "con tl") | (intro p9 h9; walk_at "tl")
  k_with "FinA" => ((unfold LCg.FinA); (with_reducible rename Sep _ _ => S9); intro D' h' tk' F' N' o1'; k_dflt (have S' := Sep.off1 S9 rfl rfl o1'); (clear o1' S9); (try simp only [List.nil_append, List.cons_append] at N'); (try dsimp only))
  k_with "FinE" => ((unfold LCg.FinE); (with_reducible rename Sep _ _ => S9); intro D' h' tk' F' N' o1'; k_dflt (have S' := Sep.off1 S9 rfl rfl o1'); (clear o1' S9); (try simp only [List.nil_append, List.cons_append] at N'); (try dsimp only))
  trivial
theorem cells_sep (L : Nat) : Sep [L + 1, L + 1 + 1, L + 1 + 1 + 1] [] := by
  refine ⟨?_, fun _ h => by cases h⟩
  simp only [List.nodup_cons, List.mem_cons, List.not_mem_nil, or_false, List.nodup_nil, and_true, not_false_iff]
  omega
theorem good_true {c : ClaimW} {cl : Str → Option Addr} {mean : ExcName → Option Value} {args : List WData} {s₁ s' : Shared} (hk : ∀ b o, s₁.heap.get? b = some o → s'.heap.get? b = some o) (hg : s'.gens = #[]) (hn : ∀ cls, c.raises args cls = false) (hp : c.post args (.bool true) args = true) (hos : s'.os = s₁.os) :
    GoodW c cl mean args s₁ (.ok (.ret (.bool true))) s' := ⟨.inl ⟨_, _, _, rfl, hn, .bool true, hp, unshared_nil⟩, hk, hos, hg⟩
set_option maxHeartbeats 16000000 in
theorem law_t : PySem.Challenge.rw_pq0756_01.Holds := by
  refine holds_law law_said fun said => ?_
  refine' holds_open (q := hd.view_39) (loose := []) (Xt := fun s => xlAt hd.view_39 [] s && recOk (RowW.records rr) s) (XP := XL hd.view_39 []) (Yf := Hook.obs hkH) (Ya := Hook.val hkH) (YP := Hook.says hkH) (N := 6758) pr_left (Hook.of hkH) (Hook.keeps hkH) (fun s e => xl_of s (Bool.and_eq_true_iff.mp e).1) XL.keeps (by rfl) (by rfl) (by rfl) (fun s e => recFacts_of (Bool.and_eq_true_iff.mp e).2) (by rfl) (by first | assumption | decide +kernel) (by decide +kernel) ⟨rfl, rfl, rfl, rfl, rfl, by decide +kernel⟩ ?hw ?hc
  case hw => w_witness2
  w_on
  k_go0
  (all_goals try k_fold)
  with_unfolding_all (refine' tail0 _ _ _ _ _ _ _ _ _ _ _ ?B ?X ?T ?F ?hnm ?N ?hS ?hE ?hk1 ?hk2 ?hk3 ?hI ?hn ?hl ?hq)
  case B => assumption
  case X => assumption
  case T => assumption
  case F => (rename Fr _ _ _ _ => F9; exact F9)
  case hnm => kst_all
  case N => (rename News _ _ _ _ => N9; refine News.pick N9 ?_; walk_at "con tl")
  case hS => exact cells_sep _
  case hk1 => assumption
  case hk2 => assumption
  case hk3 => assumption
  case hI => assumption
  case hn => omega
  case hl => assumption
  case hE => first | assumption | passes_own
  case hq => (intro h' tk hk; k_steps; refine' good_true hk ?gg1 (raisesW_false ?gg2) ?gg3 rfl; (case gg1 => assumption); (case gg2 => wrow_none_raised); (case gg3 => wrow_post))
end Mine
theorem PySem.Challenge.cw_pq0756_01_holds : PySem.Challenge.rw_pq0756_01.Holds := by
  exact Mine.law_t
