import PyProof.Rows.All
import Wide.All
import OpenK.AllK
import Wide.FinOn
import PySem.Challenge.RW_nu0162_01
open PySem PySem.W PySem.Calls PyProof.Rows
set_option Elab.async false

namespace Mine
-- HeadP
set_option maxRecDepth 100000
set_option maxHeartbeats 0
abbrev pw : Program := PySem.Challenge.pw_nu0162_01
def fdAt (i j : Nat) : Option Stmt := match pw.main.body[i]? with
  | some (.ClassDef _ _ _ body _ _ _ _ _ _ _) => body[j]?
  | o => o
def fA : Option Stmt → Arguments
  | some (.FunctionDef _ a _ _ _ _ _ _ _ _) => a
  | _ => default
def fB : Option Stmt → List Stmt
  | some (.FunctionDef _ _ b _ _ _ _ _ _ _) => b
  | _ => []
def fS : Option Stmt → Scope
  | some (.FunctionDef _ _ _ _ _ _ s _ _ _) => s
  | _ => default
def fnD (name qual : Str) (i j : Nat) (dV doc pm : Value) (an : Option Addr) (cdv : Value) : Data :=
  .func { name := name, qualname := qual, params := fA (fdAt i j), body := .stmts (fB (fdAt i j)), scope := fS (fdAt i j), globals := 3, closure := [], defaults := dV, kwdefaults := .none, doc := doc, pyModule := pm, annotations := an, code := cdv, closureTuple := .none, builtins := 0 }
def dk (P : Params) (x : Str) (n : Nat) (v : Value) : DictEntry := ⟨PyData.keyHash P x, .str x n, v⟩
noncomputable def KK (P : Params) : Frag :=
  (nat_lit 1, ⟨.type "dict", none, .dict #[dk P "builtins" 162 (.ref 4), dk P "__main__" 163 (.ref 5)] 2, #[]⟩) ::
  (nat_lit 2, ⟨.none, none, .dict #[] 0, #[]⟩) ::
  (nat_lit 3, ⟨.type "dict", none, .dict #[dk P "__name__" 165 (.str "law_nu0162_01" 513), dk P "__doc__" 166 .none, dk P "__package__" 167 .none, dk P "__loader__" 168 (.builtin "__main__.__loader__#opaque"), dk P "__spec__" 169 .none, dk P "__annotations__" 170 (.ref 6), dk P "__builtins__" 171 (.ref 4), dk P "__file__" 173 (.str "/claim/cut.py" 172), dk P "__cached__" 174 .none, dk P "_wall" 193 (.ref 21), dk P "Info" 254 (.ref 52), dk P "Buffer" 312 (.ref 98), dk P "hang" 318 (.ref 107), dk P "turn_row" 326 (.ref 114), dk P "MARK" 330 (.int 3 329), dk P "next_kerned" 340 (.ref 121), dk P "put_distance" 351 (.ref 128), dk P "kern_row" 365 (.ref 135), dk P "apply_kern" 375 (.ref 142), dk P "ClassDef" 435 (.ref 185), dk P "NO_CLASS" 439 (.int 0 438), dk P "BASE" 441 (.int 1 440), dk P "COMPONENT" 443 (.int 4 442), dk P "Gdef" 512 (.ref 233), dk P "_law_pen" 520 (.ref 242), dk P "_law_draw" 533 (.ref 249), dk P "_law_pick" 541 (.ref 256), dk P "_law_row" 552 (.ref 263), dk P "_law_due" 558 (.ref 268), dk P "law" 564 (.ref 273)] 30, #[]⟩) ::
  (nat_lit 15, ⟨.type "tuple", none, .seq #[] 0, #[]⟩) ::
  (nat_lit 17, ⟨.type "tuple", none, .seq #[.str "k" 190] 0, #[]⟩) ::
  (nat_lit 18, ⟨.type "tuple", none, .seq #[] 0, #[]⟩) ::
  (nat_lit 20, ⟨.type "code", none, .fields #[.str "_wall" 187, .str "_wall" 188, .str "/claim/cut.py" 189, .int 1 0, .int 1 0, .int 0 0, .int 0 0, .int 3 0, .ref 15, .bool true, .int 181 0, .ref 16, .none, .ref 17, .ref 18, .ref 19, .int 191 0, .int 1 0, .str "/claim/cut.py" 192], #[]⟩) ::
  (nat_lit 21, ⟨.type "function", none, fnD "_wall" "_wall" 0 1000 .none .none (.str "__main__" 164) none (.ref 20), #[]⟩) ::
  (nat_lit 29, ⟨.type "tuple", none, .seq #[] 0, #[]⟩) ::
  (nat_lit 31, ⟨.type "tuple", none, .seq #[.str "self" 211, .str "code" 212, .str "glyph" 213, .str "cluster" 214] 0, #[]⟩) ::
  (nat_lit 32, ⟨.type "tuple", none, .seq #[] 0, #[]⟩) ::
  (nat_lit 34, ⟨.type "code", none, .fields #[.str "__init__" 208, .str "Info.__init__" 209, .str "/claim/cut.py" 210, .int 7 0, .int 4 0, .int 0 0, .int 0 0, .int 3 0, .ref 29, .bool true, .int 181 0, .ref 30, .none, .ref 31, .ref 32, .ref 33, .int 215 0, .int 7 0, .str "/claim/cut.py" 216], #[]⟩) ::
  (nat_lit 35, ⟨.type "function", none, fnD "__init__" "Info.__init__" 2 0 .none .none (.str "joinedhand.buffer" 194) none (.ref 34), #[]⟩) ::
  (nat_lit 36, ⟨.type "tuple", none, .seq #[] 0, #[]⟩) ::
  (nat_lit 38, ⟨.type "tuple", none, .seq #[.str "self" 221] 0, #[]⟩) ::
  (nat_lit 39, ⟨.type "tuple", none, .seq #[] 0, #[]⟩) ::
  (nat_lit 41, ⟨.type "code", none, .fields #[.str "copied" 218, .str "Info.copied" 219, .str "/claim/cut.py" 220, .int 24 0, .int 1 0, .int 0 0, .int 0 0, .int 3 0, .ref 36, .bool true, .int 181 0, .ref 37, .none, .ref 38, .ref 39, .ref 40, .int 222 0, .int 24 0, .str "/claim/cut.py" 223], #[]⟩) ::
  (nat_lit 42, ⟨.type "function", none, fnD "copied" "Info.copied" 2 1 .none .none (.str "joinedhand.buffer" 194) none (.ref 41), #[]⟩) ::
  (nat_lit 43, ⟨.type "tuple", none, .seq #[] 0, #[]⟩) ::
  (nat_lit 45, ⟨.type "tuple", none, .seq #[.str "self" 228] 0, #[]⟩) ::
  (nat_lit 46, ⟨.type "tuple", none, .seq #[] 0, #[]⟩) ::
  (nat_lit 48, ⟨.type "code", none, .fields #[.str "told" 225, .str "Info.told" 226, .str "/claim/cut.py" 227, .int 27 0, .int 1 0, .int 0 0, .int 0 0, .int 3 0, .ref 43, .bool true, .int 181 0, .ref 44, .none, .ref 45, .ref 46, .ref 47, .int 229 0, .int 27 0, .str "/claim/cut.py" 230], #[]⟩) ::
  (nat_lit 49, ⟨.type "function", none, fnD "told" "Info.told" 2 2 .none .none (.str "joinedhand.buffer" 194) none (.ref 48), #[]⟩) ::
  (nat_lit 50, ⟨.type "tuple", none, .seq #[.str "bond" 232, .str "cluster" 233, .str "code" 234, .str "glyph" 235, .str "is_unsafe" 236, .str "kind" 237, .str "lig_count" 238, .str "lig_id" 239, .str "lig_part" 240, .str "mask" 241, .str "parent" 242, .str "x_advance" 243, .str "x_offset" 244, .str "y_advance" 245, .str "y_offset" 246] 0, #[]⟩) ::
  (nat_lit 51, ⟨.type "dict", none, .dict #[dk P "__module__" 203 (.str "joinedhand.buffer" 194), dk P "__firstlineno__" 207 (.int 5 206), dk P "__init__" 217 (.ref 35), dk P "copied" 224 (.ref 42), dk P "told" 231 (.ref 49), dk P "__static_attributes__" 247 (.ref 50), dk P "__dict__" 249 (.ref 53), dk P "__weakref__" 251 (.ref 54), dk P "__doc__" 252 .none] 4, #[]⟩) ::
  (nat_lit 52, ⟨.type "type", none, .cls { name := "Info", bases := [.type "object"], mro := [.ref 52, .type "object"], ns := 51, qualname := "Info" }, #[none, none, some (.str "Info" 196), some (.str "Info" 204), some (.builtin "object.__new__"), some (.bool true)]⟩) ::
  (nat_lit 53, ⟨.type "getset_descriptor", none, .fields #[.str "__dict__" 248, .ref 52, .builtin "function.__dict__", .builtin "function.__dict__#set"], #[]⟩) ::
  (nat_lit 54, ⟨.type "getset_descriptor", none, .fields #[.str "__weakref__" 250, .ref 52, .builtin "ExceptionGroup.__weakref__", .none], #[]⟩) ::
  (nat_lit 64, ⟨.type "tuple", none, .seq #[.bool false] 0, #[]⟩) ::
  (nat_lit 65, ⟨.type "tuple", none, .seq #[] 0, #[]⟩) ::
  (nat_lit 67, ⟨.type "tuple", none, .seq #[.str "self" 270, .str "infos" 271, .str "is_backward" 272] 0, #[]⟩) ::
  (nat_lit 68, ⟨.type "tuple", none, .seq #[] 0, #[]⟩) ::
  (nat_lit 70, ⟨.type "code", none, .fields #[.str "__init__" 267, .str "Buffer.__init__" 268, .str "/claim/cut.py" 269, .int 31 0, .int 3 0, .int 0 0, .int 0 0, .int 3 0, .ref 65, .bool true, .int 181 0, .ref 66, .none, .ref 67, .ref 68, .ref 69, .int 273 0, .int 31 0, .str "/claim/cut.py" 274], #[]⟩) ::
  (nat_lit 71, ⟨.type "function", none, fnD "__init__" "Buffer.__init__" 3 0 (.ref 64) .none (.str "joinedhand.buffer" 194) none (.ref 70), #[]⟩) ::
  (nat_lit 72, ⟨.type "tuple", none, .seq #[] 0, #[]⟩) ::
  (nat_lit 75, ⟨.type "code", none, .fields #[.str "glyphs" 276, .str "Buffer.glyphs" 277, .str "/claim/cut.py" 278, .int 36 0, .int 1 0, .int 0 0, .int 0 0, .int 3 0, .ref 72, .bool true, .int 181 0, .ref 73, .none, .none, .none, .ref 74, .int 279 0, .int 36 0, .str "/claim/cut.py" 280], #[]⟩) ::
  (nat_lit 76, ⟨.type "function", none, fnD "glyphs" "Buffer.glyphs" 3 1 .none .none (.str "joinedhand.buffer" 194) none (.ref 75), #[]⟩) ::
  (nat_lit 77, ⟨.type "tuple", none, .seq #[] 0, #[]⟩) ::
  (nat_lit 79, ⟨.type "tuple", none, .seq #[.str "self" 285] 0, #[]⟩) ::
  (nat_lit 80, ⟨.type "tuple", none, .seq #[] 0, #[]⟩) ::
  (nat_lit 82, ⟨.type "code", none, .fields #[.str "clusters" 282, .str "Buffer.clusters" 283, .str "/claim/cut.py" 284, .int 39 0, .int 1 0, .int 0 0, .int 0 0, .int 3 0, .ref 77, .bool true, .int 181 0, .ref 78, .none, .ref 79, .ref 80, .ref 81, .int 286 0, .int 39 0, .str "/claim/cut.py" 287], #[]⟩) ::
  (nat_lit 83, ⟨.type "function", none, fnD "clusters" "Buffer.clusters" 3 2 .none .none (.str "joinedhand.buffer" 194) none (.ref 82), #[]⟩) ::
  (nat_lit 84, ⟨.type "tuple", none, .seq #[] 0, #[]⟩) ::
  (nat_lit 87, ⟨.type "code", none, .fields #[.str "told" 289, .str "Buffer.told" 290, .str "/claim/cut.py" 291, .int 42 0, .int 1 0, .int 0 0, .int 0 0, .int 3 0, .ref 84, .bool true, .int 181 0, .ref 85, .none, .none, .none, .ref 86, .int 292 0, .int 42 0, .str "/claim/cut.py" 293], #[]⟩) ::
  (nat_lit 88, ⟨.type "function", none, fnD "told" "Buffer.told" 3 3 .none .none (.str "joinedhand.buffer" 194) none (.ref 87), #[]⟩) ::
  (nat_lit 89, ⟨.type "tuple", none, .seq #[] 0, #[]⟩) ::
  (nat_lit 91, ⟨.type "tuple", none, .seq #[.str "self" 298] 0, #[]⟩) ::
  (nat_lit 92, ⟨.type "tuple", none, .seq #[] 0, #[]⟩) ::
  (nat_lit 94, ⟨.type "code", none, .fields #[.str "next_lig" 295, .str "Buffer.next_lig" 296, .str "/claim/cut.py" 297, .int 45 0, .int 1 0, .int 0 0, .int 0 0, .int 3 0, .ref 89, .bool true, .int 181 0, .ref 90, .none, .ref 91, .ref 92, .ref 93, .int 299 0, .int 45 0, .str "/claim/cut.py" 300], #[]⟩) ::
  (nat_lit 95, ⟨.type "function", none, fnD "next_lig" "Buffer.next_lig" 3 4 .none .none (.str "joinedhand.buffer" 194) none (.ref 94), #[]⟩) ::
  (nat_lit 96, ⟨.type "tuple", none, .seq #[.str "is_backward" 302, .str "last_lig" 303, .str "row" 304] 0, #[]⟩) ::
  (nat_lit 97, ⟨.type "dict", none, .dict #[dk P "__module__" 262 (.str "joinedhand.buffer" 194), dk P "__firstlineno__" 266 (.int 29 265), dk P "__init__" 275 (.ref 71), dk P "glyphs" 281 (.ref 76), dk P "clusters" 288 (.ref 83), dk P "told" 294 (.ref 88), dk P "next_lig" 301 (.ref 95), dk P "__static_attributes__" 305 (.ref 96), dk P "__dict__" 307 (.ref 99), dk P "__weakref__" 309 (.ref 100), dk P "__doc__" 310 .none] 4, #[]⟩) ::
  (nat_lit 98, ⟨.type "type", none, .cls { name := "Buffer", bases := [.type "object"], mro := [.ref 98, .type "object"], ns := 97, qualname := "Buffer" }, #[none, none, some (.str "Buffer" 255), some (.str "Buffer" 263), some (.builtin "object.__new__"), some (.bool true)]⟩) ::
  (nat_lit 99, ⟨.type "getset_descriptor", none, .fields #[.str "__dict__" 306, .ref 98, .builtin "function.__dict__", .builtin "function.__dict__#set"], #[]⟩) ::
  (nat_lit 100, ⟨.type "getset_descriptor", none, .fields #[.str "__weakref__" 308, .ref 98, .builtin "ExceptionGroup.__weakref__", .none], #[]⟩) ::
  (nat_lit 103, ⟨.type "tuple", none, .seq #[] 0, #[]⟩) ::
  (nat_lit 106, ⟨.type "code", none, .fields #[.str "hang" 313, .str "hang" 314, .str "/claim/cut.py" 315, .int 47 0, .int 3 0, .int 0 0, .int 0 0, .int 3 0, .ref 103, .bool true, .int 181 0, .ref 104, .none, .none, .none, .ref 105, .int 316 0, .int 47 0, .str "/claim/cut.py" 317], #[]⟩) ::
  (nat_lit 107, ⟨.type "function", none, fnD "hang" "hang" 4 1000 .none .none (.str "joinedhand.buffer" 194) none (.ref 106), #[]⟩) ::
  (nat_lit 108, ⟨.type "tuple", none, .seq #[] 0, #[]⟩) ::
  (nat_lit 110, ⟨.type "tuple", none, .seq #[.str "buffer" 322, .str "info" 323] 0, #[]⟩) ::
  (nat_lit 111, ⟨.type "tuple", none, .seq #[] 0, #[]⟩) ::
  (nat_lit 113, ⟨.type "code", none, .fields #[.str "turn_row" 319, .str "turn_row" 320, .str "/claim/cut.py" 321, .int 55 0, .int 1 0, .int 0 0, .int 0 0, .int 3 0, .ref 108, .bool true, .int 181 0, .ref 109, .none, .ref 110, .ref 111, .ref 112, .int 324 0, .int 55 0, .str "/claim/cut.py" 325], #[]⟩) ::
  (nat_lit 114, ⟨.type "function", none, fnD "turn_row" "turn_row" 5 1000 .none .none (.str "joinedhand.buffer" 194) none (.ref 113), #[]⟩) ::
  (nat_lit 115, ⟨.type "tuple", none, .seq #[] 0, #[]⟩) ::
  (nat_lit 117, ⟨.type "tuple", none, .seq #[.str "row" 334, .str "at" 335, .str "gdef" 336, .str "spot" 337] 0, #[]⟩) ::
  (nat_lit 118, ⟨.type "tuple", none, .seq #[] 0, #[]⟩) ::
  (nat_lit 120, ⟨.type "code", none, .fields #[.str "next_kerned" 331, .str "next_kerned" 332, .str "/claim/cut.py" 333, .int 61 0, .int 3 0, .int 0 0, .int 0 0, .int 3 0, .ref 115, .bool true, .int 181 0, .ref 116, .none, .ref 117, .ref 118, .ref 119, .int 338 0, .int 61 0, .str "/claim/cut.py" 339], #[]⟩) ::
  (nat_lit 121, ⟨.type "function", none, fnD "next_kerned" "next_kerned" 8 1000 .none .none (.str "joinedhand.kern" 327) none (.ref 120), #[]⟩) ::
  (nat_lit 122, ⟨.type "tuple", none, .seq #[] 0, #[]⟩) ::
  (nat_lit 124, ⟨.type "tuple", none, .seq #[.str "one" 344, .str "other" 345, .str "distance" 346, .str "half" 347, .str "rest" 348] 0, #[]⟩) ::
  (nat_lit 125, ⟨.type "tuple", none, .seq #[] 0, #[]⟩) ::
  (nat_lit 127, ⟨.type "code", none, .fields #[.str "put_distance" 341, .str "put_distance" 342, .str "/claim/cut.py" 343, .int 66 0, .int 3 0, .int 0 0, .int 0 0, .int 3 0, .ref 122, .bool true, .int 181 0, .ref 123, .none, .ref 124, .ref 125, .ref 126, .int 349 0, .int 66 0, .str "/claim/cut.py" 350], #[]⟩) ::
  (nat_lit 128, ⟨.type "function", none, fnD "put_distance" "put_distance" 9 1000 .none .none (.str "joinedhand.kern" 327) none (.ref 127), #[]⟩) ::
  (nat_lit 129, ⟨.type "tuple", none, .seq #[] 0, #[]⟩) ::
  (nat_lit 131, ⟨.type "tuple", none, .seq #[.str "buffer" 355, .str "gdef" 356, .str "pairs" 357, .str "mask" 358, .str "row" 359, .str "at" 360, .str "behind" 361, .str "distance" 362] 0, #[]⟩) ::
  (nat_lit 132, ⟨.type "tuple", none, .seq #[] 0, #[]⟩) ::
  (nat_lit 134, ⟨.type "code", none, .fields #[.str "kern_row" 352, .str "kern_row" 353, .str "/claim/cut.py" 354, .int 72 0, .int 4 0, .int 0 0, .int 0 0, .int 3 0, .ref 129, .bool true, .int 181 0, .ref 130, .none, .ref 131, .ref 132, .ref 133, .int 363 0, .int 72 0, .str "/claim/cut.py" 364], #[]⟩) ::
  (nat_lit 135, ⟨.type "function", none, fnD "kern_row" "kern_row" 10 1000 .none .none (.str "joinedhand.kern" 327) none (.ref 134), #[]⟩) ::
  (nat_lit 136, ⟨.type "tuple", none, .seq #[] 0, #[]⟩) ::
  (nat_lit 138, ⟨.type "tuple", none, .seq #[.str "buffer" 369, .str "gdef" 370, .str "pairs" 371, .str "mask" 372] 0, #[]⟩) ::
  (nat_lit 139, ⟨.type "tuple", none, .seq #[] 0, #[]⟩) ::
  (nat_lit 141, ⟨.type "code", none, .fields #[.str "apply_kern" 366, .str "apply_kern" 367, .str "/claim/cut.py" 368, .int 83 0, .int 4 0, .int 0 0, .int 0 0, .int 3 0, .ref 136, .bool true, .int 181 0, .ref 137, .none, .ref 138, .ref 139, .ref 140, .int 373 0, .int 83 0, .str "/claim/cut.py" 374], #[]⟩) ::
  (nat_lit 142, ⟨.type "function", none, fnD "apply_kern" "apply_kern" 11 1000 .none .none (.str "joinedhand.kern" 327) none (.ref 141), #[]⟩) ::
  (nat_lit 150, ⟨.type "tuple", none, .seq #[] 0, #[]⟩) ::
  (nat_lit 152, ⟨.type "tuple", none, .seq #[.str "self" 393, .str "classes" 394] 0, #[]⟩) ::
  (nat_lit 153, ⟨.type "tuple", none, .seq #[] 0, #[]⟩) ::
  (nat_lit 155, ⟨.type "code", none, .fields #[.str "__init__" 390, .str "ClassDef.__init__" 391, .str "/claim/cut.py" 392, .int 93 0, .int 2 0, .int 0 0, .int 0 0, .int 3 0, .ref 150, .bool true, .int 181 0, .ref 151, .none, .ref 152, .ref 153, .ref 154, .int 395 0, .int 93 0, .str "/claim/cut.py" 396], #[]⟩) ::
  (nat_lit 156, ⟨.type "function", none, fnD "__init__" "ClassDef.__init__" 13 0 .none .none (.str "joinedhand.classdefs" 376) none (.ref 155), #[]⟩) ::
  (nat_lit 157, ⟨.type "tuple", none, .seq #[] 0, #[]⟩) ::
  (nat_lit 159, ⟨.type "tuple", none, .seq #[.str "self" 401, .str "glyph" 402] 0, #[]⟩) ::
  (nat_lit 160, ⟨.type "tuple", none, .seq #[] 0, #[]⟩) ::
  (nat_lit 162, ⟨.type "code", none, .fields #[.str "class_of" 398, .str "ClassDef.class_of" 399, .str "/claim/cut.py" 400, .int 96 0, .int 2 0, .int 0 0, .int 0 0, .int 3 0, .ref 157, .bool true, .int 181 0, .ref 158, .none, .ref 159, .ref 160, .ref 161, .int 403 0, .int 96 0, .str "/claim/cut.py" 404], #[]⟩) ::
  (nat_lit 163, ⟨.type "function", none, fnD "class_of" "ClassDef.class_of" 13 1 .none .none (.str "joinedhand.classdefs" 376) none (.ref 162), #[]⟩) ::
  (nat_lit 164, ⟨.type "tuple", none, .seq #[] 0, #[]⟩) ::
  (nat_lit 166, ⟨.type "tuple", none, .seq #[.str "self" 409, .str "number" 410] 0, #[]⟩) ::
  (nat_lit 167, ⟨.type "tuple", none, .seq #[] 0, #[]⟩) ::
  (nat_lit 169, ⟨.type "code", none, .fields #[.str "glyphs_of" 406, .str "ClassDef.glyphs_of" 407, .str "/claim/cut.py" 408, .int 99 0, .int 2 0, .int 0 0, .int 0 0, .int 3 0, .ref 164, .bool true, .int 181 0, .ref 165, .none, .ref 166, .ref 167, .ref 168, .int 411 0, .int 99 0, .str "/claim/cut.py" 412], #[]⟩) ::
  (nat_lit 170, ⟨.type "function", none, fnD "glyphs_of" "ClassDef.glyphs_of" 13 2 .none .none (.str "joinedhand.classdefs" 376) none (.ref 169), #[]⟩) ::
  (nat_lit 171, ⟨.type "tuple", none, .seq #[] 0, #[]⟩) ::
  (nat_lit 173, ⟨.type "tuple", none, .seq #[.str "self" 417] 0, #[]⟩) ::
  (nat_lit 174, ⟨.type "tuple", none, .seq #[] 0, #[]⟩) ::
  (nat_lit 176, ⟨.type "code", none, .fields #[.str "count" 414, .str "ClassDef.count" 415, .str "/claim/cut.py" 416, .int 102 0, .int 1 0, .int 0 0, .int 0 0, .int 3 0, .ref 171, .bool true, .int 181 0, .ref 172, .none, .ref 173, .ref 174, .ref 175, .int 418 0, .int 102 0, .str "/claim/cut.py" 419], #[]⟩) ::
  (nat_lit 177, ⟨.type "function", none, fnD "count" "ClassDef.count" 13 3 .none .none (.str "joinedhand.classdefs" 376) none (.ref 176), #[]⟩) ::
  (nat_lit 178, ⟨.type "tuple", none, .seq #[] 0, #[]⟩) ::
  (nat_lit 181, ⟨.type "code", none, .fields #[.str "told" 421, .str "ClassDef.told" 422, .str "/claim/cut.py" 423, .int 105 0, .int 1 0, .int 0 0, .int 0 0, .int 3 0, .ref 178, .bool true, .int 181 0, .ref 179, .none, .none, .none, .ref 180, .int 424 0, .int 105 0, .str "/claim/cut.py" 425], #[]⟩) ::
  (nat_lit 182, ⟨.type "function", none, fnD "told" "ClassDef.told" 13 4 .none .none (.str "joinedhand.classdefs" 376) none (.ref 181), #[]⟩) ::
  (nat_lit 183, ⟨.type "tuple", none, .seq #[.str "classes" 427] 0, #[]⟩) ::
  (nat_lit 184, ⟨.type "dict", none, .dict #[dk P "__module__" 385 (.str "joinedhand.classdefs" 376), dk P "__firstlineno__" 389 (.int 91 388), dk P "__init__" 397 (.ref 156), dk P "class_of" 405 (.ref 163), dk P "glyphs_of" 413 (.ref 170), dk P "count" 420 (.ref 177), dk P "told" 426 (.ref 182), dk P "__static_attributes__" 428 (.ref 183), dk P "__dict__" 430 (.ref 186), dk P "__weakref__" 432 (.ref 187), dk P "__doc__" 433 .none] 4, #[]⟩) ::
  (nat_lit 185, ⟨.type "type", none, .cls { name := "ClassDef", bases := [.type "object"], mro := [.ref 185, .type "object"], ns := 184, qualname := "ClassDef" }, #[none, none, some (.str "ClassDef" 378), some (.str "ClassDef" 386), some (.builtin "object.__new__"), some (.bool true)]⟩) ::
  (nat_lit 186, ⟨.type "getset_descriptor", none, .fields #[.str "__dict__" 429, .ref 185, .builtin "function.__dict__", .builtin "function.__dict__#set"], #[]⟩) ::
  (nat_lit 187, ⟨.type "getset_descriptor", none, .fields #[.str "__weakref__" 431, .ref 185, .builtin "ExceptionGroup.__weakref__", .none], #[]⟩) ::
  (nat_lit 197, ⟨.type "tuple", none, .seq #[.none, .none] 0, #[]⟩) ::
  (nat_lit 198, ⟨.type "tuple", none, .seq #[] 0, #[]⟩) ::
  (nat_lit 200, ⟨.type "tuple", none, .seq #[.str "self" 459, .str "classes" 460, .str "attach" 461, .str "sets" 462, .str "points" 463, .str "carets" 464] 0, #[]⟩) ::
  (nat_lit 201, ⟨.type "tuple", none, .seq #[] 0, #[]⟩) ::
  (nat_lit 203, ⟨.type "code", none, .fields #[.str "__init__" 456, .str "Gdef.__init__" 457, .str "/claim/cut.py" 458, .int 113 0, .int 6 0, .int 0 0, .int 0 0, .int 3 0, .ref 198, .bool true, .int 181 0, .ref 199, .none, .ref 200, .ref 201, .ref 202, .int 465 0, .int 113 0, .str "/claim/cut.py" 466], #[]⟩) ::
  (nat_lit 204, ⟨.type "function", none, fnD "__init__" "Gdef.__init__" 18 0 (.ref 197) .none (.str "joinedhand.gdef" 436) none (.ref 203), #[]⟩) ::
  (nat_lit 205, ⟨.type "tuple", none, .seq #[] 0, #[]⟩) ::
  (nat_lit 207, ⟨.type "tuple", none, .seq #[.str "self" 471, .str "glyph" 472, .str "number" 473] 0, #[]⟩) ::
  (nat_lit 208, ⟨.type "tuple", none, .seq #[] 0, #[]⟩) ::
  (nat_lit 210, ⟨.type "code", none, .fields #[.str "glyph_class" 468, .str "Gdef.glyph_class" 469, .str "/claim/cut.py" 470, .int 120 0, .int 2 0, .int 0 0, .int 0 0, .int 3 0, .ref 205, .bool true, .int 181 0, .ref 206, .none, .ref 207, .ref 208, .ref 209, .int 474 0, .int 120 0, .str "/claim/cut.py" 475], #[]⟩) ::
  (nat_lit 211, ⟨.type "function", none, fnD "glyph_class" "Gdef.glyph_class" 18 1 .none .none (.str "joinedhand.gdef" 436) none (.ref 210), #[]⟩) ::
  (nat_lit 212, ⟨.type "tuple", none, .seq #[] 0, #[]⟩) ::
  (nat_lit 214, ⟨.type "tuple", none, .seq #[.str "self" 480, .str "glyph" 481] 0, #[]⟩) ::
  (nat_lit 215, ⟨.type "tuple", none, .seq #[] 0, #[]⟩) ::
  (nat_lit 217, ⟨.type "code", none, .fields #[.str "attach_class" 477, .str "Gdef.attach_class" 478, .str "/claim/cut.py" 479, .int 124 0, .int 2 0, .int 0 0, .int 0 0, .int 3 0, .ref 212, .bool true, .int 181 0, .ref 213, .none, .ref 214, .ref 215, .ref 216, .int 482 0, .int 124 0, .str "/claim/cut.py" 483], #[]⟩) ::
  (nat_lit 218, ⟨.type "function", none, fnD "attach_class" "Gdef.attach_class" 18 2 .none .none (.str "joinedhand.gdef" 436) none (.ref 217), #[]⟩) ::
  (nat_lit 219, ⟨.type "tuple", none, .seq #[] 0, #[]⟩) ::
  (nat_lit 221, ⟨.type "tuple", none, .seq #[.str "self" 488, .str "number" 489, .str "glyph" 490] 0, #[]⟩) ::
  (nat_lit 222, ⟨.type "tuple", none, .seq #[] 0, #[]⟩) ::
  (nat_lit 224, ⟨.type "code", none, .fields #[.str "is_in_set" 485, .str "Gdef.is_in_set" 486, .str "/claim/cut.py" 487, .int 127 0, .int 3 0, .int 0 0, .int 0 0, .int 3 0, .ref 219, .bool true, .int 181 0, .ref 220, .none, .ref 221, .ref 222, .ref 223, .int 491 0, .int 127 0, .str "/claim/cut.py" 492], #[]⟩) ::
  (nat_lit 225, ⟨.type "function", none, fnD "is_in_set" "Gdef.is_in_set" 18 3 .none .none (.str "joinedhand.gdef" 436) none (.ref 224), #[]⟩) ::
  (nat_lit 226, ⟨.type "tuple", none, .seq #[] 0, #[]⟩) ::
  (nat_lit 229, ⟨.type "code", none, .fields #[.str "told" 494, .str "Gdef.told" 495, .str "/claim/cut.py" 496, .int 130 0, .int 1 0, .int 0 0, .int 0 0, .int 3 0, .ref 226, .bool true, .int 181 0, .ref 227, .none, .none, .none, .ref 228, .int 497 0, .int 130 0, .str "/claim/cut.py" 498], #[]⟩) ::
  (nat_lit 230, ⟨.type "function", none, fnD "told" "Gdef.told" 18 4 .none .none (.str "joinedhand.gdef" 436) none (.ref 229), #[]⟩) ::
  (nat_lit 231, ⟨.type "tuple", none, .seq #[.str "attach" 500, .str "carets" 501, .str "classes" 502, .str "points" 503, .str "sets" 504] 0, #[]⟩) ::
  (nat_lit 232, ⟨.type "dict", none, .dict #[dk P "__module__" 451 (.str "joinedhand.gdef" 436), dk P "__firstlineno__" 455 (.int 111 454), dk P "__init__" 467 (.ref 204), dk P "glyph_class" 476 (.ref 211), dk P "attach_class" 484 (.ref 218), dk P "is_in_set" 493 (.ref 225), dk P "told" 499 (.ref 230), dk P "__static_attributes__" 505 (.ref 231), dk P "__dict__" 507 (.ref 234), dk P "__weakref__" 509 (.ref 235), dk P "__doc__" 510 .none] 4, #[]⟩) ::
  (nat_lit 233, ⟨.type "type", none, .cls { name := "Gdef", bases := [.type "object"], mro := [.ref 233, .type "object"], ns := 232, qualname := "Gdef" }, #[none, none, some (.str "Gdef" 444), some (.str "Gdef" 452), some (.builtin "object.__new__"), some (.bool true)]⟩) ::
  (nat_lit 234, ⟨.type "getset_descriptor", none, .fields #[.str "__dict__" 506, .ref 233, .builtin "function.__dict__", .builtin "function.__dict__#set"], #[]⟩) ::
  (nat_lit 235, ⟨.type "getset_descriptor", none, .fields #[.str "__weakref__" 508, .ref 233, .builtin "ExceptionGroup.__weakref__", .none], #[]⟩) ::
  (nat_lit 238, ⟨.type "tuple", none, .seq #[] 0, #[]⟩) ::
  (nat_lit 241, ⟨.type "code", none, .fields #[.str "_law_pen" 515, .str "_law_pen" 516, .str "/claim/cut.py" 517, .int 135 0, .int 1 0, .int 0 0, .int 0 0, .int 3 0, .ref 238, .bool true, .int 181 0, .ref 239, .none, .none, .none, .ref 240, .int 518 0, .int 135 0, .str "/claim/cut.py" 519], #[]⟩) ::
  (nat_lit 242, ⟨.type "function", none, fnD "_law_pen" "_law_pen" 20 1000 .none .none (.str "law_nu0162_01" 513) none (.ref 241), #[]⟩) ::
  (nat_lit 243, ⟨.type "tuple", none, .seq #[] 0, #[]⟩) ::
  (nat_lit 245, ⟨.type "tuple", none, .seq #[.str "pen" 524, .str "many" 525, .str "digit" 526, .str "spot" 527, .str "cell" 528, .str "great" 529, .str "stirred" 530] 0, #[]⟩) ::
  (nat_lit 246, ⟨.type "tuple", none, .seq #[] 0, #[]⟩) ::
  (nat_lit 248, ⟨.type "code", none, .fields #[.str "_law_draw" 521, .str "_law_draw" 522, .str "/claim/cut.py" 523, .int 137 0, .int 2 0, .int 0 0, .int 0 0, .int 3 0, .ref 243, .bool true, .int 181 0, .ref 244, .none, .ref 245, .ref 246, .ref 247, .int 531 0, .int 137 0, .str "/claim/cut.py" 532], #[]⟩) ::
  (nat_lit 249, ⟨.type "function", none, fnD "_law_draw" "_law_draw" 21 1000 .none .none (.str "law_nu0162_01" 513) none (.ref 248), #[]⟩) ::
  (nat_lit 250, ⟨.type "tuple", none, .seq #[] 0, #[]⟩) ::
  (nat_lit 252, ⟨.type "tuple", none, .seq #[.str "pen" 537, .str "some" 538] 0, #[]⟩) ::
  (nat_lit 253, ⟨.type "tuple", none, .seq #[] 0, #[]⟩) ::
  (nat_lit 255, ⟨.type "code", none, .fields #[.str "_law_pick" 534, .str "_law_pick" 535, .str "/claim/cut.py" 536, .int 154 0, .int 2 0, .int 0 0, .int 0 0, .int 3 0, .ref 250, .bool true, .int 181 0, .ref 251, .none, .ref 252, .ref 253, .ref 254, .int 539 0, .int 154 0, .str "/claim/cut.py" 540], #[]⟩) ::
  (nat_lit 256, ⟨.type "function", none, fnD "_law_pick" "_law_pick" 22 1000 .none .none (.str "law_nu0162_01" 513) none (.ref 255), #[]⟩) ::
  (nat_lit 257, ⟨.type "tuple", none, .seq #[] 0, #[]⟩) ::
  (nat_lit 259, ⟨.type "tuple", none, .seq #[.str "pen" 545, .str "found" 546, .str "cluster" 547, .str "lap" 548, .str "one" 549] 0, #[]⟩) ::
  (nat_lit 260, ⟨.type "tuple", none, .seq #[] 0, #[]⟩) ::
  (nat_lit 262, ⟨.type "code", none, .fields #[.str "_law_row" 542, .str "_law_row" 543, .str "/claim/cut.py" 544, .int 156 0, .int 1 0, .int 0 0, .int 0 0, .int 3 0, .ref 257, .bool true, .int 181 0, .ref 258, .none, .ref 259, .ref 260, .ref 261, .int 550 0, .int 156 0, .str "/claim/cut.py" 551], #[]⟩) ::
  (nat_lit 263, ⟨.type "function", none, fnD "_law_row" "_law_row" 23 1000 .none .none (.str "law_nu0162_01" 513) none (.ref 262), #[]⟩) ::
  (nat_lit 264, ⟨.type "tuple", none, .seq #[] 0, #[]⟩) ::
  (nat_lit 267, ⟨.type "code", none, .fields #[.str "_law_due" 553, .str "_law_due" 554, .str "/claim/cut.py" 555, .int 167 0, .int 5 0, .int 0 0, .int 0 0, .int 3 0, .ref 264, .bool true, .int 181 0, .ref 265, .none, .none, .none, .ref 266, .int 556 0, .int 167 0, .str "/claim/cut.py" 557], #[]⟩) ::
  (nat_lit 268, ⟨.type "function", none, fnD "_law_due" "_law_due" 24 1000 .none .none (.str "law_nu0162_01" 513) none (.ref 267), #[]⟩) ::
  (nat_lit 269, ⟨.type "tuple", none, .seq #[] 0, #[]⟩) ::
  (nat_lit 272, ⟨.type "code", none, .fields #[.str "law" 559, .str "law" 560, .str "/claim/cut.py" 561, .int 186 0, .int 1 0, .int 0 0, .int 0 0, .int 3 0, .ref 269, .bool true, .int 181 0, .ref 270, .none, .none, .none, .ref 271, .int 562 0, .int 186 0, .str "/claim/cut.py" 563], #[]⟩) ::
  (nat_lit 273, ⟨.type "function", none, fnD "law" "law" 25 1000 .none .none (.str "law_nu0162_01" 513) none (.ref 272), #[]⟩) :: []
theorem ho_lit {K : Frag} {f : Addr} {oc : Value} {od : Option Addr} {name qual : Str} {i j : Nat} {dV doc pm cdv : Value} {an : Option Addr} {osl : Array (Option Value)} {n : Str} {a : Arguments} {b : List Stmt} {dl : List Expr} {r : Option Expr} {tp : List TypeParam} {s : Scope} {ts : Option Scope} {bd : Str} {pos : Pos}
    (h : K.lookup f = some ⟨oc, od, fnD name qual i j dV doc pm an cdv, osl⟩) (e : fdAt i j = some (.FunctionDef n a b dl r tp s ts bd pos)) :
    K.lookup f = some ⟨oc, od, .func (fnOf name qual a b s dV .none doc pm an cdv .none), osl⟩ := by
  rw [h]; unfold fnD; rw [e]; rfl
def asK : List Addr := [1, 2, 3, 15, 17, 18, 20, 21, 29, 31, 32, 34, 35, 36, 38, 39, 41, 42, 43, 45, 46, 48, 49, 50, 51, 52, 53, 54, 64, 65, 67, 68, 70, 71, 72, 75, 76, 77, 79, 80, 82, 83, 84, 87, 88, 89, 91, 92, 94, 95, 96, 97, 98, 99, 100, 103, 106, 107, 108, 110, 111, 113, 114, 115, 117, 118, 120, 121, 122, 124, 125, 127, 128, 129, 131, 132, 134, 135, 136, 138, 139, 141, 142, 150, 152, 153, 155, 156, 157, 159, 160, 162, 163, 164, 166, 167, 169, 170, 171, 173, 174, 176, 177, 178, 181, 182, 183, 184, 185, 186, 187, 197, 198, 200, 201, 203, 204, 205, 207, 208, 210, 211, 212, 214, 215, 217, 218, 219, 221, 222, 224, 225, 226, 229, 230, 231, 232, 233, 234, 235, 238, 241, 242, 243, 245, 246, 248, 249, 250, 252, 253, 255, 256, 257, 259, 260, 262, 263, 264, 267, 268, 269, 272, 273]
def qv : Program := { pw with main := { pw.main with body := [0,2,3,4,5,7,8,9,10,11,13,15,16,17,18,20,21,22,23,24,25].filterMap (fun i => pw.main.body[i]?) } }
noncomputable abbrev hk : Hook := kHook KK asK (fun _ => by kernel_rfl)
def fzD (name qual : Str) (i j : Nat) : Data :=
  .func { name := name, qualname := qual, params := fA (fdAt i j), body := .stmts (fB (fdAt i j)), scope := fS (fdAt i j), globals := 0, closure := [], defaults := .none, kwdefaults := .none }
noncomputable def KZ (P : Params) : Frag :=
  (nat_lit 0, PySem.W.boot_o_0 P) ::
  (nat_lit 4, PySem.W.boot_o_4 P) ::
  (nat_lit 5, PySem.W.boot_o_5 P) ::
  (nat_lit 6, PySem.W.boot_o_6 P) ::
  (nat_lit 7, PySem.W.boot_o_7 P) ::
  (nat_lit 8, PySem.W.boot_o_8 P) ::
  (nat_lit 9, PySem.W.boot_o_9 P) ::
  (nat_lit 10, PySem.W.boot_o_10 P) ::
  (nat_lit 11, ⟨.type "tuple", none, .seq #[] 0, #[]⟩) ::
  (nat_lit 12, ⟨.none, none, .fields #[.int 1 0, .int 0 0, .ref 20, .int 5 0, .int 0 0, .ref 27, .int 29 0, .int 0 0, .ref 62, .int 47 0, .int 0 0, .ref 106, .int 55 0, .int 0 0, .ref 113, .int 61 0, .int 0 0, .ref 120, .int 66 0, .int 0 0, .ref 127, .int 72 0, .int 0 0, .ref 134, .int 83 0, .int 0 0, .ref 141, .int 91 0, .int 0 0, .ref 148, .int 111 0, .int 0 0, .ref 195, .int 135 0, .int 0 0, .ref 241, .int 137 0, .int 0 0, .ref 248, .int 154 0, .int 0 0, .ref 255, .int 156 0, .int 0 0, .ref 262, .int 167 0, .int 0 0, .ref 267, .int 186 0, .int 0 0, .ref 272], #[]⟩) ::
  (nat_lit 13, ⟨.type "code", none, .fields #[.str "<module>" 182, .str "<module>" 183, .str "/claim/cut.py" 184, .int 1 0, .int 0 0, .int 0 0, .int 0 0, .int 0 0, .ref 11, .bool false, .int 181 0, .ref 12, .none, .none, .none, .none, .int 185 0, .int 1 0, .str "/claim/cut.py" 186], #[]⟩) ::
  (nat_lit 14, ⟨.type "frame", none, .plain, #[some (.ref 13), some (.ref 3), some (.ref 3), none, some (.str "__main__" 164), none, some (.ref 0)]⟩) ::
  (nat_lit 16, ⟨.none, none, .fields #[], #[]⟩) ::
  (nat_lit 19, ⟨.none, none, fzD "_wall" "_wall" 0 1000, #[]⟩) ::
  (nat_lit 22, ⟨.type "tuple", none, .seq #[] 0, #[]⟩) ::
  (nat_lit 23, ⟨.type "builtin_function_or_method", none, .fields #[.builtin "type.__prepare__", .type "type"], #[]⟩) ::
  (nat_lit 24, ⟨.type "dict", none, .dict #[dk P "__module__" 203 (.str "joinedhand.buffer" 194), dk P "__qualname__" 205 (.str "Info" 204), dk P "__firstlineno__" 207 (.int 5 206), dk P "__init__" 217 (.ref 35), dk P "copied" 224 (.ref 42), dk P "told" 231 (.ref 49), dk P "__static_attributes__" 247 (.ref 50)] 7, #[]⟩) ::
  (nat_lit 25, ⟨.type "tuple", none, .seq #[] 0, #[]⟩) ::
  (nat_lit 26, ⟨.none, none, .fields #[.int 7 0, .int 4 0, .ref 34, .int 24 0, .int 4 0, .ref 41, .int 27 0, .int 4 0, .ref 48], #[]⟩) ::
  (nat_lit 27, ⟨.type "code", none, .fields #[.str "Info" 198, .str "Info" 199, .str "/claim/cut.py" 200, .int 5 0, .int 0 0, .int 0 0, .int 0 0, .int 0 0, .ref 25, .bool false, .int 181 0, .ref 26, .none, .none, .none, .none, .int 201 0, .int 5 0, .str "/claim/cut.py" 202], #[]⟩) ::
  (nat_lit 28, ⟨.type "frame", none, .plain, #[some (.ref 27), some (.ref 3), some (.ref 24), none, some (.str "joinedhand.buffer" 194), none, some (.ref 0)]⟩) ::
  (nat_lit 30, ⟨.none, none, .fields #[], #[]⟩) ::
  (nat_lit 33, ⟨.none, none, fzD "__init__" "Info.__init__" 2 0, #[]⟩) ::
  (nat_lit 37, ⟨.none, none, .fields #[], #[]⟩) ::
  (nat_lit 40, ⟨.none, none, fzD "copied" "Info.copied" 2 1, #[]⟩) ::
  (nat_lit 44, ⟨.none, none, .fields #[], #[]⟩) ::
  (nat_lit 47, ⟨.none, none, fzD "told" "Info.told" 2 2, #[]⟩) ::
  (nat_lit 55, ⟨.type "super", none, .fields #[.ref 52, .ref 52, .ref 52], #[]⟩) ::
  (nat_lit 56, ⟨.type "builtin_function_or_method", none, .fields #[.builtin "object.__init_subclass__", .ref 52], #[]⟩) ::
  (nat_lit 57, ⟨.type "tuple", none, .seq #[] 0, #[]⟩) ::
  (nat_lit 58, ⟨.type "builtin_function_or_method", none, .fields #[.builtin "type.__prepare__", .type "type"], #[]⟩) ::
  (nat_lit 59, ⟨.type "dict", none, .dict #[dk P "__module__" 262 (.str "joinedhand.buffer" 194), dk P "__qualname__" 264 (.str "Buffer" 263), dk P "__firstlineno__" 266 (.int 29 265), dk P "__init__" 275 (.ref 71), dk P "glyphs" 281 (.ref 76), dk P "clusters" 288 (.ref 83), dk P "told" 294 (.ref 88), dk P "next_lig" 301 (.ref 95), dk P "__static_attributes__" 305 (.ref 96)] 9, #[]⟩) ::
  (nat_lit 60, ⟨.type "tuple", none, .seq #[] 0, #[]⟩) ::
  (nat_lit 61, ⟨.none, none, .fields #[.int 31 0, .int 4 0, .ref 70, .int 36 0, .int 4 0, .ref 75, .int 39 0, .int 4 0, .ref 82, .int 42 0, .int 4 0, .ref 87, .int 45 0, .int 4 0, .ref 94], #[]⟩) ::
  (nat_lit 62, ⟨.type "code", none, .fields #[.str "Buffer" 257, .str "Buffer" 258, .str "/claim/cut.py" 259, .int 29 0, .int 0 0, .int 0 0, .int 0 0, .int 0 0, .ref 60, .bool false, .int 181 0, .ref 61, .none, .none, .none, .none, .int 260 0, .int 29 0, .str "/claim/cut.py" 261], #[]⟩) ::
  (nat_lit 63, ⟨.type "frame", none, .plain, #[some (.ref 62), some (.ref 3), some (.ref 59), none, some (.str "joinedhand.buffer" 194), none, some (.ref 0)]⟩) ::
  (nat_lit 66, ⟨.none, none, .fields #[], #[]⟩) ::
  (nat_lit 69, ⟨.none, none, fzD "__init__" "Buffer.__init__" 3 0, #[]⟩) ::
  (nat_lit 73, ⟨.none, none, .fields #[], #[]⟩) ::
  (nat_lit 74, ⟨.none, none, fzD "glyphs" "Buffer.glyphs" 3 1, #[]⟩) ::
  (nat_lit 78, ⟨.none, none, .fields #[], #[]⟩) ::
  (nat_lit 81, ⟨.none, none, fzD "clusters" "Buffer.clusters" 3 2, #[]⟩) ::
  (nat_lit 85, ⟨.none, none, .fields #[], #[]⟩) ::
  (nat_lit 86, ⟨.none, none, fzD "told" "Buffer.told" 3 3, #[]⟩) ::
  (nat_lit 90, ⟨.none, none, .fields #[], #[]⟩) ::
  (nat_lit 93, ⟨.none, none, fzD "next_lig" "Buffer.next_lig" 3 4, #[]⟩) ::
  (nat_lit 101, ⟨.type "super", none, .fields #[.ref 98, .ref 98, .ref 98], #[]⟩) ::
  (nat_lit 102, ⟨.type "builtin_function_or_method", none, .fields #[.builtin "object.__init_subclass__", .ref 98], #[]⟩) ::
  (nat_lit 104, ⟨.none, none, .fields #[], #[]⟩) ::
  (nat_lit 105, ⟨.none, none, fzD "hang" "hang" 4 1000, #[]⟩) ::
  (nat_lit 109, ⟨.none, none, .fields #[], #[]⟩) ::
  (nat_lit 112, ⟨.none, none, fzD "turn_row" "turn_row" 5 1000, #[]⟩) ::
  (nat_lit 116, ⟨.none, none, .fields #[], #[]⟩) ::
  (nat_lit 119, ⟨.none, none, fzD "next_kerned" "next_kerned" 8 1000, #[]⟩) ::
  (nat_lit 123, ⟨.none, none, .fields #[], #[]⟩) ::
  (nat_lit 126, ⟨.none, none, fzD "put_distance" "put_distance" 9 1000, #[]⟩) ::
  (nat_lit 130, ⟨.none, none, .fields #[], #[]⟩) ::
  (nat_lit 133, ⟨.none, none, fzD "kern_row" "kern_row" 10 1000, #[]⟩) ::
  (nat_lit 137, ⟨.none, none, .fields #[], #[]⟩) ::
  (nat_lit 140, ⟨.none, none, fzD "apply_kern" "apply_kern" 11 1000, #[]⟩) ::
  (nat_lit 143, ⟨.type "tuple", none, .seq #[] 0, #[]⟩) ::
  (nat_lit 144, ⟨.type "builtin_function_or_method", none, .fields #[.builtin "type.__prepare__", .type "type"], #[]⟩) ::
  (nat_lit 145, ⟨.type "dict", none, .dict #[dk P "__module__" 385 (.str "joinedhand.classdefs" 376), dk P "__qualname__" 387 (.str "ClassDef" 386), dk P "__firstlineno__" 389 (.int 91 388), dk P "__init__" 397 (.ref 156), dk P "class_of" 405 (.ref 163), dk P "glyphs_of" 413 (.ref 170), dk P "count" 420 (.ref 177), dk P "told" 426 (.ref 182), dk P "__static_attributes__" 428 (.ref 183)] 9, #[]⟩) ::
  (nat_lit 146, ⟨.type "tuple", none, .seq #[] 0, #[]⟩) ::
  (nat_lit 147, ⟨.none, none, .fields #[.int 93 0, .int 4 0, .ref 155, .int 96 0, .int 4 0, .ref 162, .int 99 0, .int 4 0, .ref 169, .int 102 0, .int 4 0, .ref 176, .int 105 0, .int 4 0, .ref 181], #[]⟩) ::
  (nat_lit 148, ⟨.type "code", none, .fields #[.str "ClassDef" 380, .str "ClassDef" 381, .str "/claim/cut.py" 382, .int 91 0, .int 0 0, .int 0 0, .int 0 0, .int 0 0, .ref 146, .bool false, .int 181 0, .ref 147, .none, .none, .none, .none, .int 383 0, .int 91 0, .str "/claim/cut.py" 384], #[]⟩) ::
  (nat_lit 149, ⟨.type "frame", none, .plain, #[some (.ref 148), some (.ref 3), some (.ref 145), none, some (.str "joinedhand.classdefs" 376), none, some (.ref 0)]⟩) ::
  (nat_lit 151, ⟨.none, none, .fields #[], #[]⟩) ::
  (nat_lit 154, ⟨.none, none, fzD "__init__" "ClassDef.__init__" 13 0, #[]⟩) ::
  (nat_lit 158, ⟨.none, none, .fields #[], #[]⟩) ::
  (nat_lit 161, ⟨.none, none, fzD "class_of" "ClassDef.class_of" 13 1, #[]⟩) ::
  (nat_lit 165, ⟨.none, none, .fields #[], #[]⟩) ::
  (nat_lit 168, ⟨.none, none, fzD "glyphs_of" "ClassDef.glyphs_of" 13 2, #[]⟩) ::
  (nat_lit 172, ⟨.none, none, .fields #[], #[]⟩) ::
  (nat_lit 175, ⟨.none, none, fzD "count" "ClassDef.count" 13 3, #[]⟩) ::
  (nat_lit 179, ⟨.none, none, .fields #[], #[]⟩) ::
  (nat_lit 180, ⟨.none, none, fzD "told" "ClassDef.told" 13 4, #[]⟩) ::
  (nat_lit 188, ⟨.type "super", none, .fields #[.ref 185, .ref 185, .ref 185], #[]⟩) ::
  (nat_lit 189, ⟨.type "builtin_function_or_method", none, .fields #[.builtin "object.__init_subclass__", .ref 185], #[]⟩) ::
  (nat_lit 190, ⟨.type "tuple", none, .seq #[] 0, #[]⟩) ::
  (nat_lit 191, ⟨.type "builtin_function_or_method", none, .fields #[.builtin "type.__prepare__", .type "type"], #[]⟩) ::
  (nat_lit 192, ⟨.type "dict", none, .dict #[dk P "__module__" 451 (.str "joinedhand.gdef" 436), dk P "__qualname__" 453 (.str "Gdef" 452), dk P "__firstlineno__" 455 (.int 111 454), dk P "__init__" 467 (.ref 204), dk P "glyph_class" 476 (.ref 211), dk P "attach_class" 484 (.ref 218), dk P "is_in_set" 493 (.ref 225), dk P "told" 499 (.ref 230), dk P "__static_attributes__" 505 (.ref 231)] 9, #[]⟩) ::
  (nat_lit 193, ⟨.type "tuple", none, .seq #[] 0, #[]⟩) ::
  (nat_lit 194, ⟨.none, none, .fields #[.int 113 0, .int 4 0, .ref 203, .int 120 0, .int 4 0, .ref 210, .int 124 0, .int 4 0, .ref 217, .int 127 0, .int 4 0, .ref 224, .int 130 0, .int 4 0, .ref 229], #[]⟩) ::
  (nat_lit 195, ⟨.type "code", none, .fields #[.str "Gdef" 446, .str "Gdef" 447, .str "/claim/cut.py" 448, .int 111 0, .int 0 0, .int 0 0, .int 0 0, .int 0 0, .ref 193, .bool false, .int 181 0, .ref 194, .none, .none, .none, .none, .int 449 0, .int 111 0, .str "/claim/cut.py" 450], #[]⟩) ::
  (nat_lit 196, ⟨.type "frame", none, .plain, #[some (.ref 195), some (.ref 3), some (.ref 192), none, some (.str "joinedhand.gdef" 436), none, some (.ref 0)]⟩) ::
  (nat_lit 199, ⟨.none, none, .fields #[], #[]⟩) ::
  (nat_lit 202, ⟨.none, none, fzD "__init__" "Gdef.__init__" 18 0, #[]⟩) ::
  (nat_lit 206, ⟨.none, none, .fields #[], #[]⟩) ::
  (nat_lit 209, ⟨.none, none, fzD "glyph_class" "Gdef.glyph_class" 18 1, #[]⟩) ::
  (nat_lit 213, ⟨.none, none, .fields #[], #[]⟩) ::
  (nat_lit 216, ⟨.none, none, fzD "attach_class" "Gdef.attach_class" 18 2, #[]⟩) ::
  (nat_lit 220, ⟨.none, none, .fields #[], #[]⟩) ::
  (nat_lit 223, ⟨.none, none, fzD "is_in_set" "Gdef.is_in_set" 18 3, #[]⟩) ::
  (nat_lit 227, ⟨.none, none, .fields #[], #[]⟩) ::
  (nat_lit 228, ⟨.none, none, fzD "told" "Gdef.told" 18 4, #[]⟩) ::
  (nat_lit 236, ⟨.type "super", none, .fields #[.ref 233, .ref 233, .ref 233], #[]⟩) ::
  (nat_lit 237, ⟨.type "builtin_function_or_method", none, .fields #[.builtin "object.__init_subclass__", .ref 233], #[]⟩) ::
  (nat_lit 239, ⟨.none, none, .fields #[], #[]⟩) ::
  (nat_lit 240, ⟨.none, none, fzD "_law_pen" "_law_pen" 20 1000, #[]⟩) ::
  (nat_lit 244, ⟨.none, none, .fields #[], #[]⟩) ::
  (nat_lit 247, ⟨.none, none, fzD "_law_draw" "_law_draw" 21 1000, #[]⟩) ::
  (nat_lit 251, ⟨.none, none, .fields #[], #[]⟩) ::
  (nat_lit 254, ⟨.none, none, fzD "_law_pick" "_law_pick" 22 1000, #[]⟩) ::
  (nat_lit 258, ⟨.none, none, .fields #[], #[]⟩) ::
  (nat_lit 261, ⟨.none, none, fzD "_law_row" "_law_row" 23 1000, #[]⟩) ::
  (nat_lit 265, ⟨.none, none, .fields #[], #[]⟩) ::
  (nat_lit 266, ⟨.none, none, fzD "_law_due" "_law_due" 24 1000, #[]⟩) ::
  (nat_lit 270, ⟨.none, none, .fields #[], #[]⟩) ::
  (nat_lit 271, ⟨.none, none, fzD "law" "law" 25 1000, #[]⟩) :: []
/-- the objects of both fragments, in the order of their addresses -/
noncomputable def mg : Nat → Frag → Frag → List Obj
  | n + 1, a :: as, b :: bs => match Nat.ble a.1 b.1 with
    | true => a.2 :: mg n as (b :: bs)
    | false => b.2 :: mg n (a :: as) bs
  | n + 1, [], b :: bs => b.2 :: mg n [] bs
  | n + 1, a :: as, [] => a.2 :: mg n as []
  | _, _, _ => []
noncomputable def bIns : List Obj → Nat → BT → BT
  | [], _, t => t
  | o :: os, n, t => bIns os (n + 1) (t.ins n o)
noncomputable def stT (P : Params) (n : Nat) (o3 o12 : Obj) : BT := bIns ((((mg 274 (KK P) (KZ P)).take n).set 3 o3).set 12 o12) 0 .nil
abbrev bE : List Stmt := behindTheImports pw
def envT : Env := { scope := pw.main.scope, locals := mainNs, globals := mainNs, cells := [], code := .ref 13, frame := some 14 }
abbrev cT : Code := .body bE envT
abbrev BT0 : List Frame := [topFrame ⟨0, 0, 0, 0⟩]
abbrev annT : Option Value := some (.ref 6)
abbrev sts (a n : Nat) : List Stmt := (bE.drop a).take n
def x0_3 (P : Params) : Obj := ⟨.type "dict", none, .dict #[dk P "__name__" 165 (.str "__main__" 164), dk P "__doc__" 166 .none, dk P "__package__" 167 .none, dk P "__loader__" 168 (.builtin "__main__.__loader__#opaque"), dk P "__spec__" 169 .none, dk P "__annotations__" 170 (.ref 6), dk P "__builtins__" 171 (.ref 4), dk P "__file__" 173 (.str "/claim/cut.py" 172), dk P "__cached__" 174 .none] 9, #[]⟩
def x0_12 : Obj := ⟨.none, none, .fields #[], #[]⟩
noncomputable def st0 (w : World) (os : OsState) : SharedT := ⟨stT w.params 15 (x0_3 w.params) x0_12, 15, {}, #[], boot_drawn, 187, os⟩
/-- the library's own quicker twins of the machine -/
theorem seg_fast {w : World} {n : Nat} {s : SharedT} {l : List Stmt} {env : Env} {c : Code} {p : Pos} {B : List Frame} {r : Option (Flow × SharedT × Code × Pos)}
    (h : PySem.W.Fast.tw10110043849684766642 PySem.W.Fast.tw14364793385576792824 pw w 11 annT 1 n s ⟨(PySem.W.Fast.tw12563942051412417395 l env).wrap doneF deadEnd id id, c, p, B⟩ = r) : segRunT treeTable pw w 11 annT 1 n s (piecesOf l env c p B) = r := by
  rw [← PySem.W.Fast.te10110043849684766642, ← PySem.W.Fast.te14364793385576792824, ← PySem.W.Fast.te12563942051412417395] at h
  exact h
theorem p_open : ∀ w : World, (fencedOpening treeTable pw w 3768).map (fun s => (s.heap, s.gens, s.drawn, s.toks)) = some (boot_heap w.params, Array.mk [], boot_drawn, boot_toks) :=
  boot_open (by kernel_rfl) (by decide) fun s => by kernel_rfl
theorem p_pre (w : World) (os : OsState) : topGo treeTable pw w 11 annT 12 ⟨boot_heap w.params, #[], boot_drawn, boot_toks, os⟩ (topStub pw) = some ((st0 w os).abs, ⟨denote treeTable cT, cT, ⟨0, 0, 0, 0⟩, BT0⟩) := by kernel_rfl
theorem p_block (w : World) (os : OsState) : segRun treeTable pw w 11 annT 1 1 (st0 w os).abs (blockOf bE envT cT ⟨0, 0, 0, 0⟩ BT0) = some (.next, (st0 w os).abs, cT, ⟨0, 0, 0, 0⟩) := by kernel_rfl
def x1_3 (P : Params) : Obj := ⟨.type "dict", none, .dict #[dk P "__name__" 165 (.str "joinedhand.buffer" 194), dk P "__doc__" 166 .none, dk P "__package__" 167 .none, dk P "__loader__" 168 (.builtin "__main__.__loader__#opaque"), dk P "__spec__" 169 .none, dk P "__annotations__" 170 (.ref 6), dk P "__builtins__" 171 (.ref 4), dk P "__file__" 173 (.str "/claim/cut.py" 172), dk P "__cached__" 174 .none, dk P "_wall" 193 (.ref 21)] 10, #[]⟩
def x1_12 : Obj := ⟨.none, none, .fields #[.int 1 0, .int 0 0, .ref 20], #[]⟩
noncomputable def st1 (w : World) (os : OsState) : SharedT := ⟨stT w.params 22 (x1_3 w.params) x1_12, 22, {}, #[], boot_drawn, 196, os⟩
theorem p1 (w : World) (os : OsState) : segRunT treeTable pw w 11 annT 1 39 (st0 w os) (piecesOf (sts 0 2) envT cT ⟨0, 0, 0, 0⟩ BT0) = some (.next, st1 w os, cT, ⟨4, 0, 4, 8⟩) := seg_fast (by kernel_rfl)
def x2_3 (P : Params) : Obj := ⟨.type "dict", none, .dict #[dk P "__name__" 165 (.str "joinedhand.buffer" 194), dk P "__doc__" 166 .none, dk P "__package__" 167 .none, dk P "__loader__" 168 (.builtin "__main__.__loader__#opaque"), dk P "__spec__" 169 .none, dk P "__annotations__" 170 (.ref 6), dk P "__builtins__" 171 (.ref 4), dk P "__file__" 173 (.str "/claim/cut.py" 172), dk P "__cached__" 174 .none, dk P "_wall" 193 (.ref 21), dk P "Info" 254 (.ref 52)] 11, #[]⟩
def x2_12 : Obj := ⟨.none, none, .fields #[.int 1 0, .int 0 0, .ref 20, .int 5 0, .int 0 0, .ref 27], #[]⟩
noncomputable def st2 (w : World) (os : OsState) : SharedT := ⟨stT w.params 57 (x2_3 w.params) x2_12, 57, {}, #[], boot_drawn, 255, os⟩
theorem p2 (w : World) (os : OsState) : segRunT treeTable pw w 11 annT 1 301 (st1 w os) (piecesOf (sts 2 1) envT cT ⟨4, 0, 4, 8⟩ BT0) = some (.next, st2 w os, cT, ⟨5, 0, 28, 103⟩) := seg_fast (by kernel_rfl)
def x3_3 (P : Params) : Obj := ⟨.type "dict", none, .dict #[dk P "__name__" 165 (.str "joinedhand.buffer" 194), dk P "__doc__" 166 .none, dk P "__package__" 167 .none, dk P "__loader__" 168 (.builtin "__main__.__loader__#opaque"), dk P "__spec__" 169 .none, dk P "__annotations__" 170 (.ref 6), dk P "__builtins__" 171 (.ref 4), dk P "__file__" 173 (.str "/claim/cut.py" 172), dk P "__cached__" 174 .none, dk P "_wall" 193 (.ref 21), dk P "Info" 254 (.ref 52), dk P "Buffer" 312 (.ref 98)] 12, #[]⟩
def x3_12 : Obj := ⟨.none, none, .fields #[.int 1 0, .int 0 0, .ref 20, .int 5 0, .int 0 0, .ref 27, .int 29 0, .int 0 0, .ref 62], #[]⟩
noncomputable def st3 (w : World) (os : OsState) : SharedT := ⟨stT w.params 103 (x3_3 w.params) x3_12, 103, {}, #[], boot_drawn, 313, os⟩
theorem p3 (w : World) (os : OsState) : segRunT treeTable pw w 11 annT 1 345 (st2 w os) (piecesOf (sts 3 1) envT cT ⟨5, 0, 28, 103⟩ BT0) = some (.next, st3 w os, cT, ⟨29, 0, 46, 16⟩) := seg_fast (by kernel_rfl)
def x4_3 (P : Params) : Obj := ⟨.type "dict", none, .dict #[dk P "__name__" 165 (.str "joinedhand.classdefs" 376), dk P "__doc__" 166 .none, dk P "__package__" 167 .none, dk P "__loader__" 168 (.builtin "__main__.__loader__#opaque"), dk P "__spec__" 169 .none, dk P "__annotations__" 170 (.ref 6), dk P "__builtins__" 171 (.ref 4), dk P "__file__" 173 (.str "/claim/cut.py" 172), dk P "__cached__" 174 .none, dk P "_wall" 193 (.ref 21), dk P "Info" 254 (.ref 52), dk P "Buffer" 312 (.ref 98), dk P "hang" 318 (.ref 107), dk P "turn_row" 326 (.ref 114), dk P "MARK" 330 (.int 3 329), dk P "next_kerned" 340 (.ref 121), dk P "put_distance" 351 (.ref 128), dk P "kern_row" 365 (.ref 135), dk P "apply_kern" 375 (.ref 142)] 19, #[]⟩
def x4_12 : Obj := ⟨.none, none, .fields #[.int 1 0, .int 0 0, .ref 20, .int 5 0, .int 0 0, .ref 27, .int 29 0, .int 0 0, .ref 62, .int 47 0, .int 0 0, .ref 106, .int 55 0, .int 0 0, .ref 113, .int 61 0, .int 0 0, .ref 120, .int 66 0, .int 0 0, .ref 127, .int 72 0, .int 0 0, .ref 134, .int 83 0, .int 0 0, .ref 141], #[]⟩
noncomputable def st4 (w : World) (os : OsState) : SharedT := ⟨stT w.params 143 (x4_3 w.params) x4_12, 143, {}, #[], boot_drawn, 378, os⟩
theorem p4 (w : World) (os : OsState) : segRunT treeTable pw w 11 annT 1 217 (st3 w os) (piecesOf (sts 4 9) envT cT ⟨29, 0, 46, 16⟩ BT0) = some (.next, st4 w os, cT, ⟨90, 0, 90, 8⟩) := seg_fast (by kernel_rfl)
def x5_3 (P : Params) : Obj := ⟨.type "dict", none, .dict #[dk P "__name__" 165 (.str "joinedhand.gdef" 436), dk P "__doc__" 166 .none, dk P "__package__" 167 .none, dk P "__loader__" 168 (.builtin "__main__.__loader__#opaque"), dk P "__spec__" 169 .none, dk P "__annotations__" 170 (.ref 6), dk P "__builtins__" 171 (.ref 4), dk P "__file__" 173 (.str "/claim/cut.py" 172), dk P "__cached__" 174 .none, dk P "_wall" 193 (.ref 21), dk P "Info" 254 (.ref 52), dk P "Buffer" 312 (.ref 98), dk P "hang" 318 (.ref 107), dk P "turn_row" 326 (.ref 114), dk P "MARK" 330 (.int 3 329), dk P "next_kerned" 340 (.ref 121), dk P "put_distance" 351 (.ref 128), dk P "kern_row" 365 (.ref 135), dk P "apply_kern" 375 (.ref 142), dk P "ClassDef" 435 (.ref 185), dk P "NO_CLASS" 439 (.int 0 438), dk P "BASE" 441 (.int 1 440), dk P "COMPONENT" 443 (.int 4 442)] 23, #[]⟩
def x5_12 : Obj := ⟨.none, none, .fields #[.int 1 0, .int 0 0, .ref 20, .int 5 0, .int 0 0, .ref 27, .int 29 0, .int 0 0, .ref 62, .int 47 0, .int 0 0, .ref 106, .int 55 0, .int 0 0, .ref 113, .int 61 0, .int 0 0, .ref 120, .int 66 0, .int 0 0, .ref 127, .int 72 0, .int 0 0, .ref 134, .int 83 0, .int 0 0, .ref 141, .int 91 0, .int 0 0, .ref 148], #[]⟩
noncomputable def st5 (w : World) (os : OsState) : SharedT := ⟨stT w.params 190 (x5_3 w.params) x5_12, 190, {}, #[], boot_drawn, 444, os⟩
theorem p5 (w : World) (os : OsState) : segRunT treeTable pw w 11 annT 1 382 (st4 w os) (piecesOf (sts 13 5) envT cT ⟨90, 0, 90, 8⟩ BT0) = some (.next, st5 w os, cT, ⟨110, 0, 110, 9⟩) := seg_fast (by kernel_rfl)
def x6_3 (P : Params) : Obj := ⟨.type "dict", none, .dict #[dk P "__name__" 165 (.str "joinedhand.gdef" 436), dk P "__doc__" 166 .none, dk P "__package__" 167 .none, dk P "__loader__" 168 (.builtin "__main__.__loader__#opaque"), dk P "__spec__" 169 .none, dk P "__annotations__" 170 (.ref 6), dk P "__builtins__" 171 (.ref 4), dk P "__file__" 173 (.str "/claim/cut.py" 172), dk P "__cached__" 174 .none, dk P "_wall" 193 (.ref 21), dk P "Info" 254 (.ref 52), dk P "Buffer" 312 (.ref 98), dk P "hang" 318 (.ref 107), dk P "turn_row" 326 (.ref 114), dk P "MARK" 330 (.int 3 329), dk P "next_kerned" 340 (.ref 121), dk P "put_distance" 351 (.ref 128), dk P "kern_row" 365 (.ref 135), dk P "apply_kern" 375 (.ref 142), dk P "ClassDef" 435 (.ref 185), dk P "NO_CLASS" 439 (.int 0 438), dk P "BASE" 441 (.int 1 440), dk P "COMPONENT" 443 (.int 4 442), dk P "Gdef" 512 (.ref 233)] 24, #[]⟩
def x6_12 : Obj := ⟨.none, none, .fields #[.int 1 0, .int 0 0, .ref 20, .int 5 0, .int 0 0, .ref 27, .int 29 0, .int 0 0, .ref 62, .int 47 0, .int 0 0, .ref 106, .int 55 0, .int 0 0, .ref 113, .int 61 0, .int 0 0, .ref 120, .int 66 0, .int 0 0, .ref 127, .int 72 0, .int 0 0, .ref 134, .int 83 0, .int 0 0, .ref 141, .int 91 0, .int 0 0, .ref 148, .int 111 0, .int 0 0, .ref 195], #[]⟩
noncomputable def st6 (w : World) (os : OsState) : SharedT := ⟨stT w.params 238 (x6_3 w.params) x6_12, 238, {}, #[], boot_drawn, 513, os⟩
theorem p6 (w : World) (os : OsState) : segRunT treeTable pw w 11 annT 1 358 (st5 w os) (piecesOf (sts 18 1) envT cT ⟨110, 0, 110, 9⟩ BT0) = some (.next, st6 w os, cT, ⟨111, 0, 133, 114⟩) := seg_fast (by kernel_rfl)
def x7_3 (P : Params) : Obj := ⟨.type "dict", none, .dict #[dk P "__name__" 165 (.str "law_nu0162_01" 513), dk P "__doc__" 166 .none, dk P "__package__" 167 .none, dk P "__loader__" 168 (.builtin "__main__.__loader__#opaque"), dk P "__spec__" 169 .none, dk P "__annotations__" 170 (.ref 6), dk P "__builtins__" 171 (.ref 4), dk P "__file__" 173 (.str "/claim/cut.py" 172), dk P "__cached__" 174 .none, dk P "_wall" 193 (.ref 21), dk P "Info" 254 (.ref 52), dk P "Buffer" 312 (.ref 98), dk P "hang" 318 (.ref 107), dk P "turn_row" 326 (.ref 114), dk P "MARK" 330 (.int 3 329), dk P "next_kerned" 340 (.ref 121), dk P "put_distance" 351 (.ref 128), dk P "kern_row" 365 (.ref 135), dk P "apply_kern" 375 (.ref 142), dk P "ClassDef" 435 (.ref 185), dk P "NO_CLASS" 439 (.int 0 438), dk P "BASE" 441 (.int 1 440), dk P "COMPONENT" 443 (.int 4 442), dk P "Gdef" 512 (.ref 233), dk P "_law_pen" 520 (.ref 242), dk P "_law_draw" 533 (.ref 249), dk P "_law_pick" 541 (.ref 256), dk P "_law_row" 552 (.ref 263), dk P "_law_due" 558 (.ref 268), dk P "law" 564 (.ref 273)] 30, #[]⟩
def x7_12 : Obj := ⟨.none, none, .fields #[.int 1 0, .int 0 0, .ref 20, .int 5 0, .int 0 0, .ref 27, .int 29 0, .int 0 0, .ref 62, .int 47 0, .int 0 0, .ref 106, .int 55 0, .int 0 0, .ref 113, .int 61 0, .int 0 0, .ref 120, .int 66 0, .int 0 0, .ref 127, .int 72 0, .int 0 0, .ref 134, .int 83 0, .int 0 0, .ref 141, .int 91 0, .int 0 0, .ref 148, .int 111 0, .int 0 0, .ref 195, .int 135 0, .int 0 0, .ref 241, .int 137 0, .int 0 0, .ref 248, .int 154 0, .int 0 0, .ref 255, .int 156 0, .int 0 0, .ref 262, .int 167 0, .int 0 0, .ref 267, .int 186 0, .int 0 0, .ref 272], #[]⟩
noncomputable def st7 (w : World) (os : OsState) : SharedT := ⟨stT w.params 274 (x7_3 w.params) x7_12, 274, {}, #[], boot_drawn, 565, os⟩
theorem p7 (w : World) (os : OsState) : segRunT treeTable pw w 11 annT 1 186 (st6 w os) (piecesOf (sts 19 7) envT cT ⟨111, 0, 133, 114⟩ BT0) = some (.next, st7 w os, cT, ⟨186, 0, 203, 60⟩) := seg_fast (by kernel_rfl)
theorem p_fin (w : World) (os : OsState) : topRun treeTable pw w 11 annT 2 (st7 w os).abs ⟨doneF .next, cT, ⟨186, 0, 203, 60⟩, BT0⟩ = some (st7 w os).abs := by kernel_rfl
theorem p_body : bE = sts 0 2 ++ (sts 2 1 ++ (sts 3 1 ++ (sts 4 9 ++ (sts 13 5 ++ (sts 18 1 ++ (sts 19 7 ++ [])))))) := by kernel_rfl
theorem p_rest (w : World) (os : OsState) : topRun treeTable pw w 11 annT (39 + (301 + (345 + (217 + (382 + (358 + (186 + 2))))))) (st0 w os).abs (restOf bE envT cT ⟨0, 0, 0, 0⟩ BT0) = some (st7 w os).abs :=
  Eq.mpr (congrArg (fun l => topRun treeTable pw w 11 annT (39 + (301 + (345 + (217 + (382 + (358 + (186 + 2))))))) (st0 w os).abs (restOf l envT cT ⟨0, 0, 0, 0⟩ BT0) = some (st7 w os).abs) p_body)
    (piece_app (segRun_of (p1 w os)) (piece_app (segRun_of (p2 w os)) (piece_app (segRun_of (p3 w os)) (piece_app (segRun_of (p4 w os)) (piece_app (segRun_of (p5 w os)) (piece_app (segRun_of (p6 w os)) (piece_app (segRun_of (p7 w os)) (piece_nil (p_fin w os)))))))))
theorem p_run0 (w : World) (os : OsState) : topRun treeTable pw w 11 annT (12 + (1 + (39 + (301 + (345 + (217 + (382 + (358 + (186 + 2))))))))) ⟨boot_heap w.params, #[], boot_drawn, boot_toks, os⟩ (topStub pw) = some (st7 w os).abs :=
  go_top (p_pre w os) (piece_block (p_block w os) (p_rest w os))
noncomputable def hE (P : Params) : Heap := absHeap (stT P 274 (x7_3 P) x7_12) 274 {}
noncomputable abbrev shE (w : World) (os : OsState) : Shared := ⟨hE w.params, #[], boot_drawn, 565, os⟩
abbrev xtE : Shared → Bool := fun s => xlAt qv [] s && recOk [] s
theorem p_end (w : World) (os : OsState) : (st7 w os).abs = shE w os := by kernel_rfl
theorem p_run (w : World) (os : OsState) : topRun treeTable pw w 11 annT (12 + (1 + (39 + (301 + (345 + (217 + (382 + (358 + (186 + 2))))))))) ⟨boot_heap w.params, #[], boot_drawn, boot_toks, os⟩ (topStub pw) = some (shE w os) := (p_run0 w os).trans (congrArg some (p_end w os))
theorem p_size (w : World) : ((boot_heap w.params).isNs mainGlobals && (#[] : Array GenState).size == 0, (boot_heap w.params).objs.size, (boot_heap w.params).nsMap mainGlobals "__annotations__") = (true, 11, annT) := by kernel_rfl
theorem p_ok (w : World) (os : OsState) : (staticsOk (importedModules pw.main.body) (boot_heap w.params) (hE w.params) && namesBound pw (hE w.params) && gensDone (shE w os) && laidKept (boot_heap w.params) (hE w.params)) = true := by kernel_rfl
theorem p_seen (w : World) (os : OsState) : openSeen qv [] (importedModules pw.main.body) xtE true (shE w os) = openGood qv [] := by kernel_rfl
theorem p_hook (w : World) (os : OsState) : hk.obs (shE w os) = hk.val w := by kernel_rfl
theorem left : LeftO pw qv [] xtE hk.obs hk.val 3768 :=
  LeftO.of_pieces (H₁ := hE) (gs₁ := #[]) (d₁ := boot_drawn) (k₁ := 565) p_open p_size p_run (by decide) fun w => funext fun os => looks_pair (p_ok w os) (looks_pair (p_seen w os) (p_hook w os))
theorem said : PySem.Challenge.rw_nu0162_01.wellSaid = true := by
  unfold OpenLaw.wellSaid OpenRow.wellSaid OpenRow.partSaid looksOpen
  repeat' with_reducible refine look_both ?_ ?_
  all_goals decide +kernel

end Mine

namespace Mine
-- Fw1
set_option maxRecDepth 100000

/-- a value with its token rubbed out -/
def er : Value → Value
  | .int i _ => .int i 0
  | .str s _ => .str s 0
  | v => v
abbrev iv (i : Int) : Value := .int i 0
abbrev sv (s : PySem.Str) : Value := .str s 0

theorem er_int {v : Value} {i : Int} (h : er v = iv i) : ∃ t, v = .int i t := by
  cases v <;> simp [er] at h; exact ⟨_, by rw [h]⟩
theorem er_str {v : Value} {x : PySem.Str} (h : er v = sv x) : ∃ t, v = .str x t := by
  cases v <;> simp [er] at h; exact ⟨_, by rw [h]⟩
theorem er_ref {v : Value} {a : Addr} (h : er v = .ref a) : v = .ref a := by
  cases v <;> simp [er] at h; rw [h]
theorem er_bool {v : Value} {b : Bool} (h : er v = .bool b) : v = .bool b := by
  cases v <;> simp [er] at h; rw [h]
theorem er_none {v : Value} (h : er v = .none) : v = .none := by
  cases v <;> simp [er] at h; rfl
theorem er_type {v : Value} {b : String} (h : er v = .type b) : v = .type b := by
  cases v <;> simp [er] at h; rw [h]
theorem er_builtin {v : Value} {b : String} (h : er v = .builtin b) : v = .builtin b := by
  cases v <;> simp [er] at h; rw [h]
theorem er_er (v : Value) : er (er v) = er v := by cases v <;> rfl

def erE (e : DictEntry) : DictEntry := ⟨e.hash, er e.key, er e.val⟩

inductive Cel where
  | list (vs : List Value)
  | vec (vs : List Value)
  | tup (vs : List Value)
  | inst (C d : Addr)
  | dict (es : List DictEntry)
  | cell (v : Option Value)
  | range (a b : Int)
  | idict (kvs : List (Int × Value))
  | pdict (xs : List (List Int × Addr × Value))

/-- one world for all: what a key is does not lean on it -/
noncomputable abbrev ik : KeyKind default (aWorld 1) Int := intKind default (aWorld 1)
def Holds (hh : Heap) (a : Addr) : Cel → Prop
  | .list vs => ∃ (us : List Value) (n : Nat), hh.get? a = some (W.listOf us.toArray n) ∧ us.map er = vs
  | .vec vs => ∃ us : List Value, hh.IsList a us.toArray ∧ us.map er = vs
  | .tup vs => ∃ us : List Value, IsTup hh a us.toArray ∧ us.map er = vs
  | .inst C d => hh.get? a = some (instObj C d)
  | .dict es => ∃ (us : List DictEntry) (n : Nat), hh.get? a = some (dictOf us n) ∧ us.map erE = es
  | .cell v => ∃ o u, hh.get? a = some o ∧ o.data = .cell u ∧ u.map er = v
  | .range x y => ∃ t u v, IsRange hh a x y 1 t u v
  | .idict kvs => ∃ us : List (Int × Value), hh.DictOf ik a us ∧ us.map (fun x => (x.1, er x.2)) = kvs
  | .pdict xs => ∃ (us : List (List Int × Addr × Value)) (o : Obj) (es : Array DictEntry) (ep : Nat), hh.get? a = some o ∧ o.ExactDict ∧ o.data = .dict es ep ∧ es.toList = us.map (entryOfKey (tupleKind ik)) ∧ (us.map (·.1)).Nodup ∧ us.map (fun x => (x.1, x.2.1, er x.2.2)) = xs

theorem Holds.mono {hh h' : Heap} {a : Addr} {c : Cel} (x : Holds hh a c) (k : ∀ o, hh.get? a = some o → h'.get? a = some o) : Holds h' a c := by
  cases c with
  | list vs => obtain ⟨us, n, ho, r⟩ := x; exact ⟨us, n, k _ ho, r⟩
  | vec vs => obtain ⟨us, ⟨o, ho, r⟩, e⟩ := x; exact ⟨us, ⟨o, k _ ho, r⟩, e⟩
  | tup vs => obtain ⟨us, ⟨o, ho, r⟩, e⟩ := x; exact ⟨us, ⟨o, k _ ho, r⟩, e⟩
  | inst C d => exact k _ x
  | dict es => obtain ⟨us, n, ho, r⟩ := x; exact ⟨us, n, k _ ho, r⟩
  | cell v => obtain ⟨o, u, ho, r⟩ := x; exact ⟨o, u, k _ ho, r⟩
  | range p q => obtain ⟨t, u, v, ho⟩ := x; exact ⟨t, u, v, k _ ho⟩
  | idict kvs => obtain ⟨us, ⟨o, es, ep, ho, r⟩, e⟩ := x; exact ⟨us, ⟨o, es, ep, k _ ho, r⟩, e⟩
  | pdict xs => obtain ⟨us, o, es, ep, ho, r⟩ := x; exact ⟨us, o, es, ep, k _ ho, r⟩
theorem Holds.ex {hh : Heap} {a : Addr} {c : Cel} (x : Holds hh a c) : ∃ o, hh.get? a = some o := by
  cases c with
  | list vs => obtain ⟨us, n, ho, r⟩ := x; exact ⟨_, ho⟩
  | vec vs => obtain ⟨us, ⟨o, ho, r⟩, e⟩ := x; exact ⟨_, ho⟩
  | tup vs => obtain ⟨us, ⟨o, ho, r⟩, e⟩ := x; exact ⟨_, ho⟩
  | inst C d => exact ⟨_, x⟩
  | dict es => obtain ⟨us, n, ho, r⟩ := x; exact ⟨_, ho⟩
  | cell v => obtain ⟨o, u, ho, r⟩ := x; exact ⟨_, ho⟩
  | range p q => obtain ⟨t, u, v, ho⟩ := x; exact ⟨_, ho⟩
  | idict kvs => obtain ⟨us, ⟨o, es, ep, ho, r⟩, e⟩ := x; exact ⟨_, ho⟩
  | pdict xs => obtain ⟨us, o, es, ep, ho, r⟩ := x; exact ⟨_, ho⟩

abbrev Fh := Addr → Option Cel
abbrev Loc := PySem.Str → Option Value
def fset (f : Fh) (a : Addr) (c : Cel) : Fh := fun b => if b = a then some c else f b
def mset (m : Loc) (x : PySem.Str) (v : Value) : Loc := fun y => if y = x then some v else m y
theorem fset_self {f : Fh} {a : Addr} {c : Cel} : fset f a c a = some c := if_pos rfl
theorem fset_ne {f : Fh} {a b : Addr} {c : Cel} (h : b ≠ a) : fset f a c b = f b := if_neg h

def IsL (f : Fh) (l : Addr) (vs : List Value) : Prop := f l = some (.list vs) ∨ f l = some (.vec vs)

structure Gl where
  prog : Program
  w : World
  h₀ : Heap
  K : Frag
structure Gl.Ok (G : Gl) : Prop where
  K : G.K.In G.h₀
  T : ∃ p loose mg mb, TopRead p loose mg mb G.h₀
  S : ∃ o, G.h₀.get? sysModules = some o

structure RelH (G : Gl) (f : Fh) (hh : Heap) : Prop where
  holds : ∀ a c, f a = some c → Holds hh a c
  base : ∀ a o, G.h₀.get? a = some o → hh.get? a = some o
  off : ∀ a o, G.h₀.get? a = some o → f a = none
structure RelF (G : Gl) (L : Addr) (m : Loc) (f : Fh) (hh : Heap) : Prop extends RelH G f hh where
  ns : ∃ u, hh.Ns L u ∧ ∀ x, (u x).map er = m x
  loc : f L = none
  locb : G.h₀.get? L = none

def Sm (s s' : Shared) : Prop := s'.gens = s.gens ∧ s'.drawn = s.drawn ∧ s'.os = s.os
theorem Sm.rfl {s : Shared} {h : Heap} {t : Nat} : Sm s { s with heap := h, toks := t } := ⟨by rfl, by rfl, by rfl⟩
theorem Sm.trans {s s' s'' : Shared} (a : Sm s s') (b : Sm s' s'') : Sm s s'' := ⟨b.1.trans a.1, b.2.1.trans a.2.1, b.2.2.trans a.2.2⟩

def Kept (L : Addr) (f : Fh) (hh : Heap) (f' : Fh) (h' : Heap) : Prop := ∀ a o, a ≠ L → f a = none → hh.get? a = some o → h'.get? a = some o ∧ f' a = none
def KeptC (f : Fh) (hh : Heap) (f' : Fh) (h' : Heap) : Prop := ∀ a o, f a = none → hh.get? a = some o → h'.get? a = some o ∧ f' a = none
theorem Kept.refl {L : Addr} {f : Fh} {hh : Heap} : Kept L f hh f hh := fun _ _ _ e g => ⟨g, e⟩
theorem KeptC.refl {f : Fh} {hh : Heap} : KeptC f hh f hh := fun _ _ e g => ⟨g, e⟩
theorem Kept.trans {L : Addr} {f f' f'' : Fh} {h h' h'' : Heap} (a : Kept L f h f' h') (b : Kept L f' h' f'' h'') : Kept L f h f'' h'' :=
  fun x o n e g => let ⟨p, q⟩ := a x o n e g; b x o n q p
theorem KeptC.trans {f f' f'' : Fh} {h h' h'' : Heap} (a : KeptC f h f' h') (b : KeptC f' h' f'' h'') : KeptC f h f'' h'' :=
  fun x o e g => let ⟨p, q⟩ := a x o e g; b x o q p
theorem KeptC.toF {L : Addr} {f f' : Fh} {h h' : Heap} (a : KeptC f h f' h') : Kept L f h f' h' := fun x o _ e g => a x o e g

structure Cx where
  G : Gl
  A : Around
  env : Env
abbrev Cx.M (X : Cx) : Model := model X.G.prog X.G.w
abbrev Cx.L (X : Cx) : Addr := X.env.locals

section
variable {α β : Type}
/-- where a run from (m, f) at s may be -/
def Out (X : Cx) (f : Fh) (s : Shared) (P : α → Loc → Fh → Prop) (v : α) (s' : Shared) : Prop :=
  Sm s s' ∧ ∃ m' f', RelF X.G X.L m' f' s'.heap ∧ Kept X.L f s.heap f' s'.heap ∧ P v m' f'
def Tr (X : Cx) (m : Loc) (f : Fh) (t : Sem α) (P : α → Loc → Fh → Prop) : Prop :=
  ∀ s, RelF X.G X.L m f s.heap → wpAny X.M X.A t (Out X f s P) (fun _ _ => False) s

variable {X : Cx} {m : Loc} {f : Fh} {t : Sem α} {P : α → Loc → Fh → Prop} {E : Value → Shared → Prop} {s : Shared}
theorem Out.mono {P' : α → Loc → Fh → Prop} {v : α} {s' : Shared} (h : Out X f s P v s') (k : ∀ v m f, P v m f → P' v m f) : Out X f s P' v s' :=
  let ⟨a, m', f', b, c, d⟩ := h; ⟨a, m', f', b, c, k _ _ _ d⟩
theorem Out.from {s₁ s' : Shared} {f₁ : Fh} {v : α} (sm : Sm s s₁) (k : Kept X.L f s.heap f₁ s₁.heap) (h : Out X f₁ s₁ P v s') : Out X f s P v s' :=
  let ⟨a, m', f', b, c, d⟩ := h; ⟨sm.trans a, m', f', b, k.trans c, d⟩
theorem Out.here {v : α} {t : Nat} (R : RelF X.G X.L m f s.heap) (p : P v m f) : Out X f s P v { s with toks := t } := ⟨Sm.rfl, m, f, R, .refl, p⟩
theorem Tr.run {Q : α → Shared → Prop} (h : Tr X m f t P) (R : RelF X.G X.L m f s.heap) (k : ∀ v s', Out X f s P v s' → Q v s') : wpAny X.M X.A t Q E s :=
  wpAny_mono (h s R) k fun _ _ e => e.elim
/-- run t; what follows starts where it ends -/
theorem Tr.then {Q : α → Shared → Prop} (h : Tr X m f t P) (R : RelF X.G X.L m f s.heap)
    (k : ∀ v s' m' f', Sm s s' → Kept X.L f s.heap f' s'.heap → RelF X.G X.L m' f' s'.heap → P v m' f' → Q v s') : wpAny X.M X.A t Q E s :=
  wpAny_mono (h s R) (fun v s' ⟨a, m', f', b, c, d⟩ => k v s' m' f' a c b d) fun _ _ e => e.elim
theorem Tr.mono {P' : α → Loc → Fh → Prop} (h : Tr X m f t P) (k : ∀ v m f, P v m f → P' v m f) : Tr X m f t P' := fun _ R => h.run R fun _ _ o => o.mono k
theorem Tr.bind {c : α → Sem β} {P : β → Loc → Fh → Prop} (h : Tr X m f t (fun a m' f' => Tr X m' f' (c a) P)) : Tr X m f (t >>= c) P := fun _ R =>
  wpAny_bind (h.then R fun _ _ _ _ sm k R' q => q.run R' fun _ _ o => o.from sm k)
theorem Tr.pure {a : α} (h : P a m f) : Tr X m f (Pure.pure a) P := fun _ R => wpAny_pure (Out.here R h)

/-- an expression's tree: the frame's names stay -/
def TrE (X : Cx) (m : Loc) (f : Fh) (t : Sem Value) (P : Value → Fh → Prop) : Prop := Tr X m f t fun v m' f' => m' = m ∧ P (er v) f'
def Ex (X : Cx) (m : Loc) (f : Fh) (e : Expr) (P : Value → Fh → Prop) : Prop := TrE X m f (eval e X.env) P
def TrB (X : Cx) (m : Loc) (f : Fh) (t : Sem Bool) (P : Bool → Fh → Prop) : Prop := Tr X m f t fun v m' f' => m' = m ∧ P v f'
def Ts (X : Cx) (m : Loc) (f : Fh) (e : Expr) (P : Bool → Fh → Prop) : Prop := TrB X m f (isTrue e X.env (eval e X.env)) P
def TrL (X : Cx) (m : Loc) (f : Fh) (t : Sem (List Value)) (P : List Value → Fh → Prop) : Prop := Tr X m f t fun v m' f' => m' = m ∧ P (v.map er) f'
def erF : Flow → Flow
  | .ret v => .ret (er v)
  | x => x
def Ss (X : Cx) (m : Loc) (f : Fh) (b : List Stmt) (P : Flow → Loc → Fh → Prop) : Prop := Tr X m f (execs b X.env) fun v m' f' => P (erF v) m' f'
end

section heaps
variable {G : Gl} {L : Addr} {m : Loc} {f : Fh} {hh h' : Heap}
theorem Kept.grow (k : ∀ b o, hh.get? b = some o → h'.get? b = some o) : Kept L f hh f h' := fun _ _ _ e g => ⟨k _ _ g, e⟩
theorem RelH.grow (R : RelH G f hh) (k : ∀ b o, hh.get? b = some o → h'.get? b = some o) : RelH G f h' :=
  ⟨fun a c e => (R.holds a c e).mono fun o => k a o, fun a o e => k _ _ (R.base a o e), R.off⟩
theorem RelF.grow (R : RelF G L m f hh) (k : ∀ b o, hh.get? b = some o → h'.get? b = some o) : RelF G L m f h' :=
  ⟨R.toRelH.grow k, let ⟨u, n, e⟩ := R.ns; ⟨u, n.at' fun o => k _ o, e⟩, R.loc, R.locb⟩
theorem RelF.lsome (R : RelF G L m f hh) : ∃ o, hh.get? L = some o := let ⟨_, ⟨o, _, _, g, _⟩, _⟩ := R.ns; ⟨o, g⟩
theorem RelH.new {a : Addr} {c : Cel} (R : RelH G f hh) (k : ∀ b o, hh.get? b = some o → h'.get? b = some o) (hn : hh.get? a = none) (x : Holds h' a c) : RelH G (fset f a c) h' := by
  refine ⟨fun b c' e => ?_, fun b o e => k _ _ (R.base b o e), fun b o e => ?_⟩
  · by_cases q : b = a
    · subst q; rw [fset_self] at e; cases e; exact x
    · rw [fset_ne q] at e; exact (R.holds b c' e).mono fun o => k b o
  · by_cases q : b = a
    · subst q; rw [R.base b o e] at hn; cases hn
    · rw [fset_ne q]; exact R.off b o e
theorem RelH.isL {l : Addr} {vs : List Value} (R : RelH G f hh) (h : IsL f l vs) : ∃ us : List Value, hh.IsList l us.toArray ∧ us.map er = vs := by
  rcases h with h | h
  · obtain ⟨us, n, g, e⟩ := R.holds _ _ h; exact ⟨us, ⟨_, g, rfl, n, rfl⟩, e⟩
  · exact R.holds _ _ h
theorem IsL.ex {l : Addr} {vs : List Value} (h : IsL f l vs) : ∃ c, f l = some c := h.elim (fun h => ⟨_, h⟩) fun h => ⟨_, h⟩
theorem IsL.ne {l a : Addr} {vs : List Value} (h : IsL f l vs) (e : f a = none) : l ≠ a := by rintro rfl; obtain ⟨c, q⟩ := h.ex; rw [q] at e; cases e
theorem IsL.keep {l : Addr} {vs : List Value} {f' : Fh} (h : IsL f l vs) (e : f' l = f l) : IsL f' l vs := by unfold IsL; rw [e]; exact h
theorem RelH.fresh {a : Addr} (R : RelH G f hh) (hn : hh.get? a = none) : f a = none := by
  cases q : f a with
  | none => rfl
  | some c => obtain ⟨o, g⟩ := (R.holds a c q).ex; rw [g] at hn; cases hn
theorem Kept.new {a : Addr} {c : Cel} (k : ∀ b o, hh.get? b = some o → h'.get? b = some o) (hn : hh.get? a = none) : Kept L f hh (fset f a c) h' :=
  fun b o _ e g => ⟨k _ _ g, by rw [fset_ne (by rintro rfl; rw [g] at hn; cases hn)]; exact e⟩
theorem RelF.new {a : Addr} {c : Cel} (R : RelF G L m f hh) (k : ∀ b o, hh.get? b = some o → h'.get? b = some o) (hn : hh.get? a = none) (x : Holds h' a c) : RelF G L m (fset f a c) h' := by
  have hL : L ≠ a := by rintro rfl; obtain ⟨o, g⟩ := R.lsome; rw [g] at hn; cases hn
  exact ⟨R.toRelH.new k hn x, (R.grow k).ns, by rw [fset_ne hL]; exact R.loc, R.locb⟩
theorem RelH.upd {a : Addr} {c c' : Cel} (R : RelH G f hh) (e : f a = some c) (k : ∀ b o, b ≠ a → hh.get? b = some o → h'.get? b = some o) (x : Holds h' a c') : RelH G (fset f a c') h' := by
  refine ⟨fun b c₁ e₁ => ?_, fun b o e₁ => k _ _ (fun q => ?_) (R.base b o e₁), fun b o e₁ => ?_⟩
  · by_cases q : b = a
    · subst q; rw [fset_self] at e₁; cases e₁; exact x
    · rw [fset_ne q] at e₁; exact (R.holds b c₁ e₁).mono fun o => k b o q
  · subst q; rw [R.off b o e₁] at e; cases e
  · by_cases q : b = a
    · subst q; rw [R.off b o e₁] at e; cases e
    · rw [fset_ne q]; exact R.off b o e₁
theorem Kept.upd {a : Addr} {c c' : Cel} (e : f a = some c) (k : ∀ b o, b ≠ a → hh.get? b = some o → h'.get? b = some o) : Kept L f hh (fset f a c') h' :=
  fun b o _ e₁ g => have q : b ≠ a := by rintro rfl; rw [e] at e₁; cases e₁
    ⟨k _ _ q g, by rw [fset_ne q]; exact e₁⟩
theorem RelF.upd {a : Addr} {c c' : Cel} (R : RelF G L m f hh) (e : f a = some c) (k : ∀ b o, b ≠ a → hh.get? b = some o → h'.get? b = some o) (x : Holds h' a c') : RelF G L m (fset f a c') h' := by
  have hL : L ≠ a := by rintro rfl; rw [R.loc] at e; cases e
  exact ⟨R.toRelH.upd e k x, let ⟨u, n, e⟩ := R.ns; ⟨u, n.at' fun o => k _ o hL, e⟩, by rw [fset_ne hL]; exact R.loc, R.locb⟩
theorem RelF.store {x : PySem.Str} {v : Value} {u : Loc} (R : RelF G L m f hh) (hu : ∀ x, (u x).map er = m x) (n : h'.Ns L fun y => if y = x then some v else u y) (k : Heap.SameBut L hh h') : RelF G L (mset m x (er v)) f h' := by
  refine ⟨⟨fun a c e => (R.holds a c e).mono fun o g => ?_, fun a o e => ?_, R.off⟩, ⟨_, n, fun y => ?_⟩, R.loc, R.locb⟩
  · exact k.extBut a o (by rintro rfl; rw [R.loc] at e; cases e) g
  · exact k.extBut a o (by rintro rfl; rw [R.locb] at e; cases e) (R.base a o e)
  · unfold mset; split <;> simp [*]
theorem Kept.store (k : Heap.SameBut L hh h') : Kept L f hh f h' := fun b o n e g => ⟨k.extBut b o n g, e⟩
theorem RelH.notSys {a : Addr} {c : Cel} (hG : G.Ok) (R : RelH G f hh) (e : f a = some c) : (a == sysModules) = false := by
  obtain ⟨o, g⟩ := hG.S
  have := R.off _ _ g
  have n : a ≠ sysModules := by rintro rfl; rw [this] at e; cases e
  exact beq_eq_false_iff_ne.mpr n
theorem nosize {h : Heap} : h.get? h.objs.size = none := by
  cases q : h.get? h.objs.size with
  | none => rfl
  | some o => exact absurd (Heap.lt_size q) (Nat.lt_irrefl _)
end heaps

end Mine

namespace Mine
-- Fw2
set_option maxRecDepth 100000
section
variable {X : Cx} {m : Loc} {f : Fh} {P : Value → Fh → Prop}

theorem TrE.out {t : Sem Value} (h : ∀ (s : Shared) (Q : Value → Shared → Prop), RelF X.G X.L m f s.heap → (∀ v s', Out X f s (fun v m' f' => m' = m ∧ P (er v) f') v s' → Q v s') → wpAny X.M X.A t Q (fun _ _ => False) s) : TrE X m f t P :=
  fun s R => h s _ R fun _ _ o => o
theorem Out.hereE {s : Shared} {v : Value} {t : Nat} (R : RelF X.G X.L m f s.heap) (p : P (er v) f) : Out X f s (fun v m' f' => m' = m ∧ P (er v) f') v { s with toks := t } := Out.here R ⟨rfl, p⟩
/-- a new object -/
theorem Out.newE {s : Shared} {a : Addr} {c : Cel} {h' : Heap} {t : Nat} (R : RelF X.G X.L m f s.heap) (k : ∀ b o, s.heap.get? b = some o → h'.get? b = some o) (hn : s.heap.get? a = none) (x : Holds h' a c)
    (p : ∀ a, f a = none → P (.ref a) (fset f a c)) : Out X f s (fun v m' f' => m' = m ∧ P (er v) f') (.ref a) { s with heap := h', toks := t } :=
  ⟨Sm.rfl, m, _, R.new k hn x, Kept.new k hn, rfl, p a (R.toRelH.fresh hn)⟩
theorem Out.growE {s : Shared} {v : Value} {h' : Heap} {t : Nat} (R : RelF X.G X.L m f s.heap) (k : ∀ b o, s.heap.get? b = some o → h'.get? b = some o) (p : P (er v) f) :
    Out X f s (fun v m' f' => m' = m ∧ P (er v) f') v { s with heap := h', toks := t } := ⟨Sm.rfl, m, f, R.grow k, Kept.grow k, rfl, p⟩

theorem Ex.mono {e : Expr} {P' : Value → Fh → Prop} (h : Ex X m f e P) (k : ∀ v f, P v f → P' v f) : Ex X m f e P' := Tr.mono h fun _ _ _ ⟨a, b⟩ => ⟨a, k _ _ b⟩
theorem TrE.mono {t : Sem Value} {P' : Value → Fh → Prop} (h : TrE X m f t P) (k : ∀ v f, P v f → P' v f) : TrE X m f t P' := Tr.mono h fun _ _ _ ⟨a, b⟩ => ⟨a, k _ _ b⟩
theorem TrE.bindE {α : Type} {t : Sem Value} {c : Value → Sem α} {Q : α → Loc → Fh → Prop} (h : TrE X m f t fun v f' => ∀ u, er u = v → Tr X m f' (c u) Q) : Tr X m f (t >>= c) Q :=
  Tr.bind (Tr.mono h fun v _ _ ⟨a, b⟩ => by subst a; exact b v rfl)

/-- the library's rule for two parts, token-free -/
theorem Ex.use {e : Expr} {s : Shared} {Q : Value → Shared → Prop} {E : Value → Shared → Prop} (h : Ex X m f e P) (R : RelF X.G X.L m f s.heap)
    (k : ∀ v s' f', Sm s s' → Kept X.L f s.heap f' s'.heap → RelF X.G X.L m f' s'.heap → P (er v) f' → Q v s') : wpAny X.M X.A (eval e X.env) Q E s :=
  Tr.then h R fun v s' m' f' sm kp R' ⟨a, b⟩ => by subst a; exact k v s' f' sm kp R' b
theorem TrE.use {t : Sem Value} {s : Shared} {Q : Value → Shared → Prop} {E : Value → Shared → Prop} (h : TrE X m f t P) (R : RelF X.G X.L m f s.heap)
    (k : ∀ v s' f', Sm s s' → Kept X.L f s.heap f' s'.heap → RelF X.G X.L m f' s'.heap → P (er v) f' → Q v s') : wpAny X.M X.A t Q E s :=
  Tr.then h R fun v s' m' f' sm kp R' ⟨a, b⟩ => by subst a; exact k v s' f' sm kp R' b
theorem TrB.use {t : Sem Bool} {P : Bool → Fh → Prop} {s : Shared} {Q : Bool → Shared → Prop} {E : Value → Shared → Prop} (h : TrB X m f t P) (R : RelF X.G X.L m f s.heap)
    (k : ∀ v s' f', Sm s s' → Kept X.L f s.heap f' s'.heap → RelF X.G X.L m f' s'.heap → P v f' → Q v s') : wpAny X.M X.A t Q E s :=
  Tr.then h R fun v s' m' f' sm kp R' ⟨a, b⟩ => by subst a; exact k v s' f' sm kp R' b
theorem TrL.use {t : Sem (List Value)} {P : List Value → Fh → Prop} {s : Shared} {Q : List Value → Shared → Prop} {E : Value → Shared → Prop} (h : TrL X m f t P) (R : RelF X.G X.L m f s.heap)
    (k : ∀ v s' f', Sm s s' → Kept X.L f s.heap f' s'.heap → RelF X.G X.L m f' s'.heap → P (v.map er) f' → Q v s') : wpAny X.M X.A t Q E s :=
  Tr.then h R fun v s' m' f' sm kp R' ⟨a, b⟩ => by subst a; exact k v s' f' sm kp R' b
theorem Tr.outs {α : Type} {t : Sem α} {P : α → Loc → Fh → Prop} {f₀ : Fh} {s₀ s : Shared} {E : Value → Shared → Prop} (h : Tr X m f t P) (R : RelF X.G X.L m f s.heap) (sm : Sm s₀ s) (k : Kept X.L f₀ s₀.heap f s.heap) :
    wpAny X.M X.A t (Out X f₀ s₀ P) E s := h.run R fun _ _ o => o.from sm k

-- names
theorem Ex.name {x : PySem.Str} {pos : Pos} {v : Value} (hv : m x = some v) (h : P v f) (hk : X.env.scope.kind = .function := by rfl) (hl : X.env.kindOf x = some .local := by rfl)
    (hd : (x == ("__debug__" : PySem.Str)) = false := by decide) : Ex X m f (.Name x pos) P := fun s R => by
  obtain ⟨u, n, e⟩ := R.ns
  have ex := e x
  rw [hv] at ex
  obtain ⟨v', hv', rfl⟩ := Option.map_eq_some_iff.mp ex
  exact wpAny_Name (wpAny_loadName_local hk hl n hv' (Out.hereE R h)) hd
theorem Ex.global {x : PySem.Str} {pos : Pos} {v : Value} (hG : X.G.Ok) (hv : nsIn X.G.K mainGlobals x = some (some v)) (h : P (er v) f) (hk : X.env.scope.kind = .function := by rfl) (hl : X.env.kindOf x = some .globalImplicit := by rfl)
    (hg : X.env.globals = mainGlobals := by rfl) (hd : (x == ("__debug__" : PySem.Str)) = false := by decide) : Ex X m f (.Name x pos) P := fun s R => by
  obtain ⟨_, _, mg, mb, T⟩ := hG.T
  refine Calls.Name_function_global hk hl (Calls.loadGlobal_global (mg := mg) ?_ (mg_of hG.K T.g hv) (Out.hereE R h)) hd
  rw [hg]; exact T.g.keeps R.base
theorem Ex.builtin {x : PySem.Str} {pos : Pos} {v : Value} (hG : X.G.Ok) (hn : nsIn X.G.K mainGlobals x = some none) (hv : bootBuiltins x = some v) (h : P (er v) f) (hk : X.env.scope.kind = .function := by rfl)
    (hl : X.env.kindOf x = some .globalImplicit := by rfl) (hg : X.env.globals = mainGlobals := by rfl) (hb : X.env.builtins = builtinsNs := by rfl)
    (hd : (x == ("__debug__" : PySem.Str)) = false := by decide) (hm : x ≠ "__name__" := by decide) : Ex X m f (.Name x pos) P := fun s R => by
  obtain ⟨_, _, mg, mb, T⟩ := hG.T
  refine Calls.Name_function_global hk hl (Calls.loadGlobal_builtin (mg := mg) (mb := mb) ?_ (mg_none_of hG.K T.g hn) ?_ ((T.builtins x hm).trans hv) (Out.hereE R h)) hd
  · rw [hg]; exact T.g.keeps R.base
  · rw [hb]; exact T.b.keeps R.base
theorem Ex.cell {x : PySem.Str} {pos : Pos} {c : Addr} {v : Value} (hc : X.env.cells.lookup x = some c) (hv : f c = some (.cell (some v))) (h : P v f) (hk : X.env.scope.kind = .function := by rfl)
    (hl : X.env.kindOf x = some .cell := by rfl) (hd : (x == ("__debug__" : PySem.Str)) = false := by decide) : Ex X m f (.Name x pos) P := fun s R => by
  obtain ⟨o, u, ho, hd', e⟩ := R.holds c _ hv
  obtain ⟨v', rfl, rfl⟩ := Option.map_eq_some_iff.mp e
  exact wpAny_Name (wpAny_loadName_cell hk hl hc ⟨o, ho, hd'⟩ (Out.hereE R h)) hd

-- constants
theorem Ex.cint {i : Int} {k : Nat} {pos : Pos} (h : P (iv i) f) : Ex X m f (.Constant (.int i) k pos) P := fun _ R => wpAny_Constant_int (Out.hereE R h)
theorem Ex.cstr {x : PySem.Str} {k : Nat} {pos : Pos} (h : P (sv x) f) : Ex X m f (.Constant (.str x) k pos) P := fun _ R => Calls.Constant_str (Out.hereE R h)
theorem Ex.cbool {b : Bool} {k : Nat} {pos : Pos} (h : P (.bool b) f) : Ex X m f (.Constant (.bool b) k pos) P := fun _ R => Constant_bool (Out.hereE R h)
theorem Ex.cnone {k : Nat} {pos : Pos} (h : P .none f) : Ex X m f (.Constant .none k pos) P := fun _ R => Constant_none (Out.hereE R h)

-- operators
def Bo (X : Cx) (m : Loc) (f : Fh) (op : Operator) (a b : Value) (P : Value → Fh → Prop) : Prop := ∀ v w, er v = a → er w = b → TrE X m f (binaryOp op v w) P
def Co (X : Cx) (m : Loc) (f : Fh) (op : CmpOp) (a b : Value) (P : Value → Fh → Prop) : Prop := ∀ v w, er v = a → er w = b → TrE X m f (compareOp op v w) P
theorem Ex.binop {l r : Expr} {op : Operator} {pos : Pos} (h : Ex X m f l fun a f₁ => Ex X m f₁ r fun b f₂ => Bo X m f₂ op a b P) : Ex X m f (.BinOp l op r pos) P := fun _ R =>
  wpAny_BinOp (h.use R fun _ _ _ sm k R h => h.use R fun _ _ _ sm' k' R h => Tr.outs (h _ _ rfl rfl) R (sm.trans sm') (k.trans k'))
theorem Ex.cmp {l r : Expr} {op : CmpOp} {pos : Pos} (h : Ex X m f l fun a f₁ => Ex X m f₁ r fun b f₂ => Co X m f₂ op a b P) (hm : behindInMarks op r = false := by rfl) : Ex X m f (.Compare l [op] [r] pos) P := fun _ R =>
  wpAny_Compare1 (h.use R fun _ _ _ sm k R h => h.use R fun _ _ _ sm' k' R h => Tr.outs (h _ _ rfl rfl) R (sm.trans sm') (k.trans k')) hm
theorem Bo.add {i j : Int} (h : P (iv (i + j)) f) : Bo X m f .Add (iv i) (iv j) P := fun v w e e' => by
  obtain ⟨_, rfl⟩ := er_int e; obtain ⟨_, rfl⟩ := er_int e'; exact fun _ R => add_int (Out.hereE R h)
theorem Bo.sub {i j : Int} (h : P (iv (i - j)) f) : Bo X m f .Sub (iv i) (iv j) P := fun v w e e' => by
  obtain ⟨_, rfl⟩ := er_int e; obtain ⟨_, rfl⟩ := er_int e'; exact fun _ R => sub_int (Out.hereE R h)
theorem Bo.mul {i j : Int} (hk : IntMulOk i j) (h : P (iv (i * j)) f) : Bo X m f .Mult (iv i) (iv j) P := fun v w e e' => by
  obtain ⟨_, rfl⟩ := er_int e; obtain ⟨_, rfl⟩ := er_int e'; exact fun _ R => mul_int (Out.hereE R h) hk
theorem Bo.mod {i j : Int} (hj : j ≠ 0) (h : P (iv (i.fmod j)) f) : Bo X m f .Mod (iv i) (iv j) P := fun v w e e' => by
  obtain ⟨_, rfl⟩ := er_int e; obtain ⟨_, rfl⟩ := er_int e'; exact fun _ R => mod_int' hj (Out.hereE R h)
theorem Bo.fdiv {i j : Int} (hj : j ≠ 0) (hs : j.natAbs < 2 ^ 30) (h : P (iv (i.fdiv j)) f) : Bo X m f .FloorDiv (iv i) (iv j) P := fun v w e e' => by
  obtain ⟨_, rfl⟩ := er_int e; obtain ⟨_, rfl⟩ := er_int e'; exact fun _ R => floordiv_int hj (Out.hereE R h) (Or.inl (PyProof.noPylong_small hs))
theorem Bo.pow {i j : Int} (h0 : 0 ≤ j) (h1 : j ≤ 1000000) (hi : i.natAbs < 2 ^ 64) (h : P (iv (i ^ j.toNat)) f) : Bo X m f .Pow (iv i) (iv j) P := fun v w e e' => by
  obtain ⟨_, rfl⟩ := er_int e; obtain ⟨_, rfl⟩ := er_int e'; exact fun _ R => pow_int_small h0 h1 hi (Out.hereE R h)
theorem Bo.and {i j : Int} (h : P (iv (Builtin.bitAnd i j)) f) : Bo X m f .BitAnd (iv i) (iv j) P := fun v w e e' => by
  obtain ⟨_, rfl⟩ := er_int e; obtain ⟨_, rfl⟩ := er_int e'; exact fun _ R => and_int (Out.hereE R h)
theorem Bo.shr {i j : Int} (hj : 0 ≤ j) (h : P (iv (i.fdiv (2 ^ j.toNat))) f) : Bo X m f .RShift (iv i) (iv j) P := fun v w e e' => by
  obtain ⟨_, rfl⟩ := er_int e; obtain ⟨_, rfl⟩ := er_int e'; exact fun _ R => rshift_int hj (Out.hereE R h)
theorem Co.eq {i j : Int} (h : P (.bool (i == j)) f) : Co X m f .Eq (iv i) (iv j) P := fun v w e e' => by
  obtain ⟨_, rfl⟩ := er_int e; obtain ⟨_, rfl⟩ := er_int e'; exact fun _ R => eq_int (Out.hereE R h)
theorem Co.ne {i j : Int} (h : P (.bool (i != j)) f) : Co X m f .NotEq (iv i) (iv j) P := fun v w e e' => by
  obtain ⟨_, rfl⟩ := er_int e; obtain ⟨_, rfl⟩ := er_int e'; exact fun _ R => ne_int (Out.hereE R h)
theorem Co.lt {i j : Int} (h : P (.bool (decide (i < j))) f) : Co X m f .Lt (iv i) (iv j) P := fun v w e e' => by
  obtain ⟨_, rfl⟩ := er_int e; obtain ⟨_, rfl⟩ := er_int e'; exact fun _ R => lt_int (Out.hereE R h)
theorem Co.le {i j : Int} (h : P (.bool (decide (i ≤ j))) f) : Co X m f .LtE (iv i) (iv j) P := fun v w e e' => by
  obtain ⟨_, rfl⟩ := er_int e; obtain ⟨_, rfl⟩ := er_int e'; exact fun _ R => le_int (Out.hereE R h)
theorem Co.gt {i j : Int} (h : P (.bool (decide (j < i))) f) : Co X m f .Gt (iv i) (iv j) P := fun v w e e' => by
  obtain ⟨_, rfl⟩ := er_int e; obtain ⟨_, rfl⟩ := er_int e'; exact fun _ R => gt_int (Out.hereE R h)
theorem Co.ge {i j : Int} (h : P (.bool (decide (j ≤ i))) f) : Co X m f .GtE (iv i) (iv j) P := fun v w e e' => by
  obtain ⟨_, rfl⟩ := er_int e; obtain ⟨_, rfl⟩ := er_int e'; exact fun _ R => ge_int (Out.hereE R h)
theorem Co.eqb {i j : Bool} (h : P (.bool (i == j)) f) : Co X m f .Eq (.bool i) (.bool j) P := fun v w e e' => by
  cases er_bool e; cases er_bool e'; exact fun _ R => eq_bool (Out.hereE R h)
theorem Ex.neg {e : Expr} {pos : Pos} (h : Ex X m f e fun v f₁ => ∃ i, v = iv i ∧ P (iv (-i)) f₁) : Ex X m f (.UnaryOp .USub e pos) P := fun _ R =>
  UnaryOp_ (h.use R fun v _ _ sm k R ⟨i, e, h⟩ => by obtain ⟨_, rfl⟩ := er_int e; exact neg_int (Out.from sm k (Out.hereE R h)))

-- tests
theorem Ts.cmp {l r : Expr} {op : CmpOp} {pos : Pos} {P : Bool → Fh → Prop} (h : Ex X m f l fun a f₁ => Ex X m f₁ r fun b f₂ => Co X m f₂ op a b fun v f₃ => ∃ c, v = .bool c ∧ P c f₃) (hm : behindInMarks op r = false := by rfl) :
    Ts X m f (.Compare l [op] [r] pos) P := fun _ R =>
  wpAny_isTrue_Compare1 (h.use R fun _ _ _ sm k R h => h.use R fun _ _ _ sm' k' R h => TrE.use (h _ _ rfl rfl) R fun v _ _ sm'' k'' R ⟨c, e, h⟩ => by
    cases er_bool e; exact wpAny_truthy_bool (Out.from ((sm.trans sm').trans sm'') ((k.trans k').trans k'') (Out.here R ⟨rfl, h⟩))) hm
def Tt (X : Cx) (m : Loc) (f : Fh) (a : Value) (P : Bool → Fh → Prop) : Prop := ∀ v, er v = a → TrB X m f (truthy v) P
theorem Tt.int {i : Int} {P : Bool → Fh → Prop} (h : P (i != 0) f) : Tt X m f (iv i) P := fun v e => by obtain ⟨_, rfl⟩ := er_int e; exact fun _ R => truthy_int (Out.here R ⟨rfl, h⟩)
theorem Tt.bool {b : Bool} {P : Bool → Fh → Prop} (h : P b f) : Tt X m f (.bool b) P := fun v e => by cases er_bool e; exact fun _ R => wpAny_truthy_bool (Out.here R ⟨rfl, h⟩)
theorem Ts.plain {e : Expr} {P : Bool → Fh → Prop} (h : Ex X m f e fun v f₁ => Tt X m f₁ v P)
    (hp : isTrue e X.env (eval e X.env) = (do let v ← eval e X.env; standAt e.pos; holding [v] (truthy v)) := by rfl) : Ts X m f e P := fun _ R =>
  isTrue_plain (h.use R fun _ _ _ sm k R h => TrB.use (h _ rfl) R fun _ _ _ sm' k' R h => Out.from (sm.trans sm') (k.trans k') (Out.here R ⟨rfl, h⟩)) hp
theorem Ts.and2 {a b : Expr} {pos : Pos} {P : Bool → Fh → Prop} {rest : List Expr} (h : Ts X m f a fun c f₁ => if c = true then TrB X m f₁ (isTrue (.BoolOp .And (b :: rest) pos) X.env (eval (.BoolOp .And (a :: b :: rest) pos) X.env)) P else P false f₁) :
    Ts X m f (.BoolOp .And (a :: b :: rest) pos) P := fun _ R =>
  isTrue_and (TrB.use h R fun c _ _ sm k R h => by
    cases c
    · rw [if_neg (by decide)]; exact Out.from sm k (Out.here R ⟨rfl, h⟩)
    · exact Tr.outs h R sm k)
theorem TrB.and1 {a : Expr} {rest : List Expr} {pos : Pos} {whole : Sem Value} {P : Bool → Fh → Prop} (h : Ts X m f a fun c f₁ => if c = true then TrB X m f₁ (isTrue (.BoolOp .And rest pos) X.env whole) P else P false f₁) :
    TrB X m f (isTrue (.BoolOp .And (a :: rest) pos) X.env whole) P := fun _ R =>
  isTrue_and (TrB.use h R fun c _ _ sm k R h => by
    cases c
    · rw [if_neg (by decide)]; exact Out.from sm k (Out.here R ⟨rfl, h⟩)
    · exact Tr.outs h R sm k)
theorem TrB.and0 {pos : Pos} {whole : Sem Value} {P : Bool → Fh → Prop} (h : P true f) : TrB X m f (isTrue (.BoolOp .And [] pos) X.env whole) P := fun _ R => isTrue_and_nil (Out.here R ⟨rfl, h⟩)
theorem TrB.or1 {a : Expr} {rest : List Expr} {pos : Pos} {whole : Sem Value} {P : Bool → Fh → Prop} (h : Ts X m f a fun c f₁ => if c = true then P true f₁ else TrB X m f₁ (isTrue (.BoolOp .Or rest pos) X.env whole) P) :
    TrB X m f (isTrue (.BoolOp .Or (a :: rest) pos) X.env whole) P := fun _ R =>
  isTrue_or (TrB.use h R fun c _ _ sm k R h => by
    cases c
    · exact Tr.outs h R sm k
    · rw [if_pos rfl]; exact Out.from sm k (Out.here R ⟨rfl, h⟩))
theorem TrB.or0 {pos : Pos} {whole : Sem Value} {P : Bool → Fh → Prop} (h : P false f) : TrB X m f (isTrue (.BoolOp .Or [] pos) X.env whole) P := fun _ R => isTrue_or_nil (Out.here R ⟨rfl, h⟩)
theorem Ex.or2 {a b : Expr} {pos : Pos} (h : Ex X m f a fun v f₁ => Tt X m f₁ v fun c f₂ => if c = true then P v f₂ else Ex X m f₂ (.BoolOp .Or [b] pos) P) : Ex X m f (.BoolOp .Or [a, b] pos) P := fun _ R =>
  BoolOp_or (h.use R fun v _ _ sm k R h => TrB.use (h _ rfl) R fun c _ _ sm' k' R h => by
    cases c
    · exact Tr.outs h R (sm.trans sm') (k.trans k')
    · exact Out.from (sm.trans sm') (k.trans k') (Out.hereE R h))
theorem Ex.and2 {a b : Expr} {pos : Pos} (h : Ex X m f a fun v f₁ => Tt X m f₁ v fun c f₂ => if c = true then Ex X m f₂ (.BoolOp .And [b] pos) P else P v f₂) : Ex X m f (.BoolOp .And [a, b] pos) P := fun _ R =>
  BoolOp_and (h.use R fun v _ _ sm k R h => TrB.use (h _ rfl) R fun c _ _ sm' k' R h => by
    cases c
    · exact Out.from (sm.trans sm') (k.trans k') (Out.hereE R h)
    · exact Tr.outs h R (sm.trans sm') (k.trans k'))
theorem Ex.bool1 {a : Expr} {op : BoolOp} {pos : Pos} (h : Ex X m f a P) : Ex X m f (.BoolOp op [a] pos) P := fun s R =>
  show wpAny _ _ (eval a X.env) _ _ _ from h s R
theorem Ex.ite {t b o : Expr} {pos : Pos} (h : Ts X m f t fun c f₁ => if c = true then Ex X m f₁ b P else Ex X m f₁ o P) : Ex X m f (.IfExp t b o pos) P := fun _ R =>
  IfExp_ (TrB.use h R fun c _ _ sm k R h => by cases c <;> exact Tr.outs h R sm k)
end

end Mine

namespace Mine
-- Fw3
set_option maxRecDepth 100000
section adapt
/-- every object but those at ex -/
def rest (h : Heap) (ex : List Addr) : List (Addr × Obj) := (List.range h.objs.size).filterMap fun a => if a ∈ ex then none else (h.get? a).map fun o => (a, o)
def hO : Heap := { objs := #[], life := {} }
theorem hO_get {a : Addr} : hO.get? a = none := by
  cases q : hO.get? a with
  | none => rfl
  | some o => exact absurd (Heap.lt_size q) (Nat.not_lt_zero _)
theorem mem_rest {h : Heap} {ex : List Addr} {a : Addr} {o : Obj} (e : h.get? a = some o) (n : a ∉ ex) : (a, o) ∈ rest h ex :=
  List.mem_filterMap.mpr ⟨a, List.mem_range.mpr (Heap.lt_size e), by rw [if_neg n, e]; rfl⟩
theorem of_rest {h : Heap} {ex : List Addr} {p : Addr × Obj} (e : p ∈ rest h ex) : h.get? p.1 = some p.2 ∧ p.1 ∉ ex := by
  obtain ⟨a, _, q⟩ := List.mem_filterMap.mp e
  split at q
  · cases q
  · rename_i n
    obtain ⟨o, g, rfl⟩ := Option.map_eq_some_iff.mp q
    exact ⟨g, n⟩
theorem frE {h : Heap} {L : Addr} {u : PySem.Str → Option Value} (n : h.Ns L u) : Fr hO L h u := ⟨n, fun _ _ e => (by rw [hO_get] at e; cases e), Nat.zero_le _⟩
theorem newsE {h : Heap} {L : Addr} {ex : List Addr} (hL : L ∈ ex) : News hO L h (rest h ex) := fun _ e => ⟨(of_rest e).1, fun q => (of_rest e).2 (q ▸ hL), hO_get⟩
end adapt

section heaps
variable {G : Gl} {L : Addr} {m : Loc} {f : Fh} {hh h' : Heap}
/-- all but L stays as it stood, and L's names stay -/
def Same (L : Addr) (hh h' : Heap) : Prop := (∀ b o, b ≠ L → hh.get? b = some o → h'.get? b = some o) ∧ ∀ u, hh.Ns L u → h'.Ns L u
theorem RelF.same (R : RelF G L m f hh) (k : Same L hh h') : RelF G L m f h' := by
  refine ⟨⟨fun a c e => (R.holds a c e).mono fun o => k.1 a o (by rintro rfl; rw [R.loc] at e; cases e), fun a o e => k.1 a o (by rintro rfl; rw [R.locb] at e; cases e) (R.base a o e), R.off⟩, ?_, R.loc, R.locb⟩
  obtain ⟨u, n, e⟩ := R.ns
  exact ⟨u, k.2 u n, e⟩
theorem Kept.same (k : Same L hh h') : Kept L f hh f h' := fun b o n e g => ⟨k.1 b o n g, e⟩
theorem Same.refl : Same L hh hh := ⟨fun _ _ _ e => e, fun _ n => n⟩
end heaps
section
variable {X : Cx} {m : Loc} {f : Fh} {P : Value → Fh → Prop}
theorem Out.sameE {s : Shared} {v : Value} {h' : Heap} {t : Nat} (R : RelF X.G X.L m f s.heap) (k : Same X.L s.heap h') (p : P (er v) f) : Out X f s (fun v m' f' => m' = m ∧ P (er v) f') v { s with heap := h', toks := t } :=
  ⟨Sm.rfl, m, f, R.same k, Kept.same k, rfl, p⟩

theorem isStr_er (v : Value) (n : PySem.Str) : (er v).isStr n = v.isStr n := by cases v <;> rfl
theorem refKey_er (e : DictEntry) : (erE e).refKey = e.refKey := by obtain ⟨h, k, v⟩ := e; cases k <;> rfl
theorem getL_er (n : PySem.Str) (us : List DictEntry) : getL n (us.map erE) = (getL n us).map (Option.map er) := by
  unfold getL
  rw [List.find?_map]
  have e : ((fun x : DictEntry => x.key.isStr n) ∘ erE) = fun x => x.key.isStr n := by funext x; exact isStr_er _ _
  rw [e]
  cases List.find? (fun x => x.key.isStr n) us with
  | some x => rfl
  | none =>
    have e2 : (us.map erE).any (·.refKey) = us.any (·.refKey) := by rw [List.any_map]; congr 1; funext x; exact refKey_er x
    simp only [Option.map_none, e2]
    split <;> rfl
theorem putL_er (n : PySem.Str) (hs : Int) (k v : Value) (us : List DictEntry) : (putL n hs k v us).map erE = putL n hs (er k) (er v) (us.map erE) := by
  induction us with
  | nil => rfl
  | cons e r ih =>
    simp only [List.map_cons, putL]
    rw [show (erE e).key.isStr n = e.key.isStr n from isStr_er _ _]
    split
    · rfl
    · rw [List.map_cons, ih]
theorem handed_er {v : Value} (h : handedIn (er v) = true) : handedIn v = true := by cases v <;> first | exact h | rfl

/-- what an attribute's name means at a class -/
structure AttrOk (K : Frag) (C : Addr) (n : PySem.Str) : Prop where
  get : plainGet K C n = true
  hd : hasDictIn K C = true
  own : ∃ q, findIn K (.ref C) n = some q ∧ noGet K q = true
theorem Ex.attr {o : Expr} {n : PySem.Str} {pos : Pos} (hG : X.G.Ok)
    (h : Ex X m f o fun v f₁ => ∃ a C d es u, v = .ref a ∧ AttrOk X.G.K C n ∧ f₁ a = some (.inst C d) ∧ f₁ d = some (.dict es) ∧ getL n es = some (some u) ∧ handedIn u = true ∧ P u f₁)
    (he : eval (.Attribute o n pos) X.env = (do let v ← eval o X.env; standAt pos.atName; let r ← holding [v] (getAttr v n true); letTemporaryGo o v r; pure r) := by rfl) : Ex X m f (.Attribute o n pos) P := fun s R => by
  refine Attribute_any_ (h.use R fun v s' f' sm k R' ⟨a, C, d, es, u, e, ok, ha, hd, hl, hn, p⟩ => ?_) he
  cases er_ref e
  have X₁ : X.G.K.In s'.heap := hG.K.keeps R'.base
  obtain ⟨us, n', g, rfl⟩ := R'.holds d _ hd
  rw [getL_er] at hl
  obtain ⟨q, hq, hu⟩ := Option.map_eq_some_iff.mp hl
  obtain ⟨u', rfl, rfl⟩ := Option.map_eq_some_iff.mp hu
  obtain ⟨q, hf, hng⟩ := ok.own
  exact get_value X₁ ⟨R'.holds a _ ha, rfl, rfl, g⟩ (plainGet_of ok.get).1 (findObj_own (od := dictOf us n') ok.hd hf hng hq) (handed_er hn) (Out.from sm k (Out.hereE R' p))

-- items
theorem Ex.sub {o i : Expr} {pos : Pos} (h : Ex X m f o fun v f₁ => Ex X m f₁ i fun w f₂ => ∃ l k xs x, v = .ref l ∧ w = iv k ∧ IsL f₂ l xs ∧ 0 ≤ k ∧ k < 2 ^ 63 ∧ xs[k.toNat]? = some x ∧ P x f₂)
    (hs : ∀ o v : Value, subscripted i false o v = operate [o, v] (getItem o v) := by intro _ _; rfl) : Ex X m f (.Subscript o i pos) P := fun s R =>
  Subscript_ (h.use R fun _ _ _ sm k R h => h.use R fun w s' _ sm' k' R ⟨l, i, xs, x, e, e', hl, h0, h1, hx, p⟩ => by
    cases er_ref e
    obtain ⟨t, rfl⟩ := er_int e'
    obtain ⟨us, g, rfl⟩ := R.isL hl
    rw [List.getElem?_map] at hx
    obtain ⟨x', hx', rfl⟩ := Option.map_eq_some_iff.mp hx
    exact tail_any g.typeIs slot_list_getitem.lookup (getItem_listL g h0 h1 hx' (Out.from (sm.trans sm') (k.trans k') (Out.hereE R p))) (hs _ _))

-- displays, arguments
def Ar (X : Cx) (m : Loc) (f : Fh) (es : List Expr) (P : List Value → Fh → Prop) : Prop := ∀ pos, TrL X m f (spliced (backTo pos (starEach es X.env))) P
theorem Ar.nil {P : List Value → Fh → Prop} (h : P [] f) : Ar X m f [] P := fun _ _ R => spliced_nil (Out.here R ⟨rfl, h⟩)
theorem Ar.cons {e : Expr} {es : List Expr} {P : List Value → Fh → Prop} (h : Ex X m f e fun v f₁ => Ar X m f₁ es fun vs f₂ => P (v :: vs) f₂)
    (he : starEach (e :: es) X.env = (false, eval e X.env) :: starEach es X.env := by rfl) : Ar X m f (e :: es) P := fun pos _ R => by
  rw [he]
  exact spliced_cons (h.use R fun v _ _ sm k R h => TrL.use (h pos) R fun vs _ _ sm' k' R p => Out.from (sm.trans sm') (k.trans k') (Out.here R ⟨rfl, p⟩))
theorem map_len {α β : Type} {g : α → β} {l : List α} {l' : List β} (e : l.map g = l') : l.length = l'.length := by rw [← e, List.length_map]
theorem Ex.tup {es : List Expr} {k : Nat} {pos : Pos} (h : Ar X m f es fun vs f₁ => vs.length ≤ 1000 ∧ ∀ a, f₁ a = none → P (.ref a) (fset f₁ a (.tup vs))) : Ex X m f (.Tuple es k pos) P := fun _ R =>
  Tuple_ (TrL.use (h pos) R fun vs s' f' sm k R ⟨hz, p⟩ => by
    refine wpAny_newObj_type (Out.from sm k (Out.newE (c := .tup (vs.map er)) R (fun _ _ => Heap.get?_push_of_some _) nosize ⟨vs, ⟨_, Heap.get?_push_size _ rfl, rfl, _, rfl⟩, rfl⟩ p)) ?_
    show vs.toArray.size ≤ sizeLine
    rw [List.length_map] at hz
    rw [List.size_toArray, sizeLine_eq]; omega)
theorem Ex.list {es : List Expr} {pos : Pos} (h : Ar X m f es fun vs f₁ => vs.length ≤ 1000 ∧ ∀ a, f₁ a = none → P (.ref a) (fset f₁ a (.list vs))) : Ex X m f (.List es pos) P := fun _ R =>
  List_ (TrL.use (h pos) R fun vs s' f' sm k R ⟨hz, p⟩ => by
    refine wpAny_newObj_type (Out.from sm k (Out.newE (c := .list (vs.map er)) R (fun _ _ => Heap.get?_push_of_some _) nosize ⟨vs, _, Heap.get?_push_size _ rfl, rfl⟩ p)) ?_
    show vs.toArray.size ≤ sizeLine
    rw [List.length_map] at hz
    rw [List.size_toArray, sizeLine_eq]; omega)

-- calls
def Ca (X : Cx) (m : Loc) (f : Fh) (g : Value) (vs : List Value) (P : Value → Fh → Prop) : Prop := ∀ us, us.map er = vs → TrE X m f (call g us) P
/-- the callee is kept by the machine or by its own frame -/
def KeepOk (X : Cx) (g : Value) : Prop := ∀ hh, X.G.K.In hh → ∃ k, (k = Keeper.frame ∨ k = Keeper.machine ∨ k = Keeper.boundFrame) ∧ Looks X.M hh (keeperOf g) k
theorem keep_K {g : Value} (h : keepIn X.G.K g = true) : KeepOk X g := fun hh x => keeps_K h hh x
theorem keep_type {T : String} : KeepOk X (.type T) := fun _ _ => ⟨.machine, .inr (.inl rfl), Looks.now⟩
theorem keep_builtin {T : String} : KeepOk X (.builtin T) := fun _ _ => ⟨.machine, .inr (.inl rfl), Looks.now⟩
theorem callWith_ {g : Value} {first : List Value} {e : Expr} {es : List Expr} {pos : Pos} (hG : X.G.Ok) (hk : KeepOk X g)
    (h : Ar X m f (e :: es) fun vs f₁ => Ca X m f₁ g (first.map er ++ vs) P) (he : starEach (e :: es) X.env = (false, eval e X.env) :: starEach es X.env) (hp : (backTo pos (starEach es X.env)).any (·.1) = false) :
    TrE X m f (callWith pos g first (backTo pos (starEach (e :: es) X.env)) []) P := fun s R => by
  have h' := h pos
  rw [he] at h' ⊢
  refine callWith_of (P := X.G.K.In) (by show ((false || (backTo pos (starEach es X.env)).any (·.1)) || false) = false; rw [hp]; rfl) hk (evalArgs_plain ?_)
  exact TrL.use h' R fun vs s' f' sm k R p => ⟨hG.K.keeps R.base, Tr.outs (p (first ++ vs) (by rw [List.map_append])) R sm k⟩
theorem callWith_0 {g : Value} {first : List Value} {pos : Pos} (hG : X.G.Ok) (hk : KeepOk X g) (h : Ca X m f g (first.map er) P) : TrE X m f (callWith pos g first (backTo pos (starEach [] X.env)) []) P := fun s R =>
  callWith_of (P := X.G.K.In) rfl hk (evalArgs_nil3 ⟨hG.K.keeps R.base, h (first ++ []) (by rw [List.append_nil]) s R⟩)
/-- a call of what a name holds -/
theorem Ex.call {x : PySem.Str} {xp : Pos} {e : Expr} {es : List Expr} {pos : Pos} {g : Value} (hG : X.G.Ok) (hg : ∀ P f, P (er g) f → Ex X m f (.Name x xp) P) (hr : ∀ v, er v = er g → v = g) (hk : KeepOk X g)
    (h : Ar X m f (e :: es) fun vs f₁ => Ca X m f₁ g vs P)
    (he : starEach (e :: es) X.env = (false, eval e X.env) :: starEach es X.env := by rfl) (hp : (backTo pos (starEach es X.env)).any (·.1) = false := by rfl) : Ex X m f (.Call (.Name x xp) (e :: es) [] pos) P := fun _ R =>
  Call_ (Ex.use (hg (fun v f' => v = er g ∧ f' = f) f ⟨rfl, rfl⟩) R fun v _ _ sm k R' ⟨e, e'⟩ => by
    subst e'; cases hr v e; exact Tr.outs (callWith_ (first := []) hG hk h he hp) R' sm k)
/-- a call of a method -/
theorem Ex.meth {o e : Expr} {n : PySem.Str} {ap pos : Pos} {es : List Expr} (hG : X.G.Ok)
    (h : Ex X m f o fun v f₁ => ∃ g first, KeepOk X g ∧ (∀ pl u s (Q : Value × List Value → Shared → Prop), er u = v → RelF X.G X.L m f₁ s.heap → (∀ fs, fs.map er = first → Q (g, fs) s) → wpAny X.M X.A (getMethod u n pl) Q (fun _ _ => False) s) ∧
      Ar X m f₁ (e :: es) fun vs f₂ => Ca X m f₂ g (first ++ vs) P)
    (he : starEach (e :: es) X.env = (false, eval e X.env) :: starEach es X.env := by rfl) (hp : (backTo pos (starEach es X.env)).any (·.1) = false := by rfl) {pl : Sem Bool}
    (hc : eval (.Call (.Attribute o n ap) (e :: es) [] pos) X.env = (do let ov ← eval o X.env; standAt ap.atName; let (f, first) ← holding [ov] (getMethod ov n pl); callWith pos f first (backTo pos (starEach (e :: es) X.env)) []) := by rfl) :
    Ex X m f (.Call (.Attribute o n ap) (e :: es) [] pos) P := fun _ R =>
  MethodCall_ (he := hc) (h.use R fun u _ _ sm k R ⟨g, first, hk, hm, h⟩ => hm pl u _ _ rfl R fun fs e => by
    subst e; exact Tr.outs (callWith_ hG hk h he hp) R sm k)
theorem Ex.meth0 {o : Expr} {n : PySem.Str} {ap pos : Pos} (hG : X.G.Ok)
    (h : Ex X m f o fun v f₁ => ∃ g first, KeepOk X g ∧ (∀ pl u s (Q : Value × List Value → Shared → Prop), er u = v → RelF X.G X.L m f₁ s.heap → (∀ fs, fs.map er = first → Q (g, fs) s) → wpAny X.M X.A (getMethod u n pl) Q (fun _ _ => False) s) ∧
      Ca X m f₁ g first P) {pl : Sem Bool}
    (hc : eval (.Call (.Attribute o n ap) [] [] pos) X.env = (do let ov ← eval o X.env; standAt ap.atName; let (f, first) ← holding [ov] (getMethod ov n pl); callWith pos f first (backTo pos (starEach [] X.env)) []) := by rfl) :
    Ex X m f (.Call (.Attribute o n ap) [] [] pos) P := fun _ R =>
  MethodCall_ (he := hc) (h.use R fun u _ _ sm k R ⟨g, first, hk, hm, h⟩ => hm pl u _ _ rfl R fun fs e => by
    subst e; exact Tr.outs (callWith_0 hG hk h) R sm k)
end

end Mine

namespace Mine
-- Fw4
set_option maxRecDepth 100000
section
variable {G : Gl} {A : Around} {f : Fh} {P : Value → Fh → Prop}
def OutC (G : Gl) (f : Fh) (s : Shared) (P : Value → Fh → Prop) (r : Result) (s' : Shared) : Prop :=
  Sm s s' ∧ ∃ v f', r = .ok (.ret v) ∧ RelH G f' s'.heap ∧ KeptC f s.heap f' s'.heap ∧ P (er v) f'
def Cv (G : Gl) (A : Around) (f : Fh) (c : Code) (P : Value → Fh → Prop) : Prop := ∀ s, RelH G f s.heap → codeAny (model G.prog G.w) A c (OutC G f s P) s
/-- a call of the def at g -/
def Cd (G : Gl) (A : Around) (f : Fh) (g : Addr) (vs : List Value) (P : Value → Fh → Prop) : Prop := ∀ us, us.map er = vs → Cv G A f (.call (.ref g) ⟨us, []⟩) P
theorem Cd.mono {g : Addr} {vs : List Value} {P' : Value → Fh → Prop} (h : Cd G A f g vs P) (k : ∀ v f', P v f' → P' v f') : Cd G A f g vs P' := fun us e s R =>
  codeAny_mono (h us e s R) fun _ _ ⟨a, v, f', b, c, d, p⟩ => ⟨a, v, f', b, c, d, k _ _ p⟩

theorem RelF.back {L : Addr} {m : Loc} {f' : Fh} {hh h' : Heap} (R : RelF G L m f hh) (R' : RelH G f' h') (k : KeptC f hh f' h') : RelF G L m f' h' := by
  obtain ⟨o, g⟩ := R.lsome
  obtain ⟨g', e'⟩ := k _ _ R.loc g
  obtain ⟨u, n, e⟩ := R.ns
  exact ⟨R', ⟨u, n.at' fun o' q => by rw [g] at q; cases q; exact g', e⟩, e', R.locb⟩
theorem Ca.def {X : Cx} {m : Loc} {g : Addr} {vs : List Value} (h : Cd X.G X.A f g vs P) : Ca X m f (.ref g) vs P := fun us e s R =>
  wpAny_call (codeAny_mono (h us e s R.toRelH) fun r s' ⟨sm, v, f', e, R', k, p⟩ => by subst e; exact ⟨sm, m, f', R.back R' k, k.toF, rfl, p⟩)

def retOf : Flow → Value
  | .ret v => v
  | _ => .none
theorem Cd.enter {name qual : PySem.Str} {params : Arguments} {body : List Stmt} {scope : Scope} {dV kV doc pm cdv ct oc : Value} {an od : Option Addr} {osl : Array (Option Value)} {g : Addr} {vs : List Value} {eb : List (PySem.Str × Value)}
    (hG : G.Ok) (ho : G.K.lookup g = some ⟨oc, od, .func (fnOf name qual params body scope dV kV doc pm an cdv ct), osl⟩) (hcd : codeIn G.K cdv qual = true) (hroom : A.depth < recursionLimit)
    (hbind : ∀ us, us.map er = vs → ∃ binds, (∀ s, G.K.In s.heap → BindsTo s (fnOf name qual params body scope dV kV doc pm an cdv ct) ⟨us, []⟩ binds) ∧ binds.map (fun y => (y.1, er y.2)) = eb)
    (hloc : (eb.all fun x => decide (scope.names.lookup x.1 = some .local)) = true)
    (h : ∀ L, Ss ⟨G, A.deeper (envOf qual scope L g cdv), envOf qual scope L g cdv⟩ (fun y => eb.reverse.lookup y) f body fun fl _ f' => P (retOf fl) f')
    (hco : scope.isCoroutine = false := by rfl) (hgen : scope.isGenerator = false := by rfl) (hk : scope.kind = .function := by rfl) (hcell : ∀ x ∈ scope.names, x.2 ≠ .cell := by decide) : Cd G A f g vs P := fun us e s R => by
  obtain ⟨binds, hb, rfl⟩ := hbind us e
  have X : G.K.In s.heap := hG.K.keeps R.base
  obtain ⟨_, _, _, _, T⟩ := hG.T
  have hloc' : ∀ y ∈ binds, scope.names.lookup y.1 = some .local := fun y hy => locs hloc (y.1, er y.2) (List.mem_map.mpr ⟨y, hy, rfl⟩)
  refine codeAny_call_def (fd := fnOf name qual params body scope dV kV doc pm an cdv ct) (body := body) (binds := binds) hroom (X _ _ ho) rfl (T.nolimit.keeps R.base) (codeRec_of X hcd) rfl (hb s X) hcell hloc' (fun h₁ hns hk₁ => ?_) hco hgen hk
  have hn : s.heap.get? s.heap.objs.size = none := nosize
  have RF : RelF G s.heap.objs.size (fun y => (binds.map fun y => (y.1, er y.2)).reverse.lookup y) f h₁ := by
    refine ⟨R.grow hk₁, ⟨_, hns, fun x => ?_⟩, R.fresh hn, ?_⟩
    · rw [← List.map_reverse]
      induction binds.reverse with
      | nil => rfl
      | cons y r ih =>
        obtain ⟨n, v⟩ := y
        simp only [List.map_cons, List.lookup_cons]
        cases x == n
        · exact ih
        · rfl
    · cases q : G.h₀.get? s.heap.objs.size with
      | none => rfl
      | some o => rw [R.base _ _ q] at hn; cases hn
  refine (h s.heap.objs.size).run (s := { s with heap := h₁, toks := s.toks + binds.length }) RF fun fl s' o => ?_
  obtain ⟨sm, m', f', R', k, p⟩ := o
  refine ⟨sm, retOf fl, f', ?_, R'.toRelH, fun a o e g => ?_, ?_⟩
  · cases fl <;> rfl
  · exact k a o (by rintro rfl; exact absurd (Heap.lt_size g) (Nat.lt_irrefl _)) e (hk₁ _ _ g)
  · cases fl <;> exact p
end

section
variable {X : Cx} {m : Loc} {f : Fh} {P : Flow → Loc → Fh → Prop} {rest : List Stmt}
def St1 (X : Cx) (m : Loc) (f : Fh) (st : Stmt) (P : Flow → Loc → Fh → Prop) : Prop := Tr X m f (exec st X.env) fun fl m' f' => P (erF fl) m' f'
def andThen (X : Cx) (rest : List Stmt) (P : Flow → Loc → Fh → Prop) (fl : Flow) (m' : Loc) (f' : Fh) : Prop := match fl with
  | .next => Ss X m' f' rest P
  | fl => P fl m' f'
theorem andNext (h : Ss X m f rest P) : andThen X rest P .next m f := h
theorem andRet {v : Value} (h : P (.ret v) m f) : andThen X rest P (.ret v) m f := h
theorem Ss.nil (h : P .next m f) : Ss X m f [] P := fun _ R => wpAny_execs_nil (Out.here R h)
theorem Ss.cons {st : Stmt} (h : St1 X m f st (andThen X rest P)) : Ss X m f (st :: rest) P := fun _ R =>
  wpAny_execs_cons (h.then R fun fl s' m' f' sm k R' p => by
    cases fl with
    | next => exact Tr.outs (show Ss X m' f' rest P from p) R' sm k
    | _ => exact Out.from sm k (Out.here R' p))
theorem Ss.mono {P' : Flow → Loc → Fh → Prop} (h : Ss X m f rest P) (k : ∀ v m f, P v m f → P' v m f) : Ss X m f rest P' := Tr.mono h fun _ _ _ p => k _ _ _ p
theorem St1.name {x : PySem.Str} {px pos : Pos} {e : Expr} (h : Ex X m f e fun v f₁ => P .next (mset m x v) f₁) (hl : X.env.kindOf x = some .local := by rfl) (hk : X.env.scope.kind = .function := by rfl)
    (hs : swapsWith e (some (.Name x px)) pos.line X.env = pure false := by rfl) : St1 X m f (.Assign [.Name x px] e pos) P := fun _ R =>
  wpAny_Assign_Name (h.use R fun v _ _ sm k R p => by
    obtain ⟨u, n, e⟩ := R.ns
    exact wpAny_storeName_local hl n (fun h' n' k' => Out.from sm k ⟨Sm.rfl, _, _, R.store e n' k', Kept.store k', p⟩) (by rw [hk]; rfl)) hs
theorem St1.ret {e : Expr} {pos : Pos} (h : Ex X m f e fun v f₁ => P (.ret v) m f₁) : St1 X m f (.Return (some e) pos) P := fun _ R =>
  wpAny_Return_some (h.use R fun v _ _ sm k R p => Out.from sm k (Out.here R p))
theorem St1.ret0 {pos : Pos} (h : P (.ret .none) m f) : St1 X m f (.Return none pos) P := fun _ R => wpAny_Return_none (Out.here R h)
theorem St1.expr {e : Expr} {pos : Pos} (h : Ex X m f e fun v f₁ => v = .none ∧ P .next m f₁) (hi : interactive X.env = false := by rfl) (hs : swapsWith e none pos.line X.env = pure false := by rfl) : St1 X m f (.Expr e pos) P := fun _ R =>
  wpAny_Expr (h.use R fun v _ _ sm k R ⟨e, p⟩ => by cases er_none e; exact Out.from sm k (Out.here R p)) hi hs
theorem St1.cond {t : Expr} {b o : List Stmt} {pos : Pos} (h : Ts X m f t fun c f₁ => if c = true then Ss X m f₁ b P else Ss X m f₁ o P) : St1 X m f (.If t b o pos) P := fun _ R =>
  wpAny_If (TrB.use h R fun c _ _ sm k R p => by cases c <;> exact Tr.outs p R sm k)
theorem Ss.nilA {P' : Flow → Loc → Fh → Prop} (h : Ss X m f rest P') : Ss X m f [] (andThen X rest P') := Ss.nil h
theorem Ss.name {x : PySem.Str} {px pos : Pos} {e : Expr} (h : Ex X m f e fun v f₁ => Ss X (mset m x v) f₁ rest P) (hl : X.env.kindOf x = some .local := by rfl) (hk : X.env.scope.kind = .function := by rfl)
    (hs : swapsWith e (some (.Name x px)) pos.line X.env = pure false := by rfl) : Ss X m f (.Assign [.Name x px] e pos :: rest) P := Ss.cons (St1.name h hl hk hs)
theorem Ss.ret {e : Expr} {pos : Pos} (h : Ex X m f e fun v f₁ => P (.ret v) m f₁) : Ss X m f (.Return (some e) pos :: rest) P := Ss.cons (St1.ret h)
theorem Ss.ret0 {pos : Pos} (h : P (.ret .none) m f) : Ss X m f (.Return none pos :: rest) P := Ss.cons (St1.ret0 h)
theorem Ss.expr {e : Expr} {pos : Pos} (h : Ex X m f e fun v f₁ => v = .none ∧ Ss X m f₁ rest P) (hi : interactive X.env = false := by rfl) (hs : swapsWith e none pos.line X.env = pure false := by rfl) : Ss X m f (.Expr e pos :: rest) P := Ss.cons (St1.expr h hi hs)
theorem Ss.cond {t : Expr} {b o : List Stmt} {pos : Pos} (h : Ts X m f t fun c f₁ => if c = true then Ss X m f₁ b (andThen X rest P) else Ss X m f₁ o (andThen X rest P)) : Ss X m f (.If t b o pos :: rest) P := Ss.cons (St1.cond h)
theorem passE {A : Around} {α : Type} {t : Sem α} {M : Model} {Q : α → Shared → Prop} {E : Value → Shared → Prop} {s : Shared} (h : wpAny M A t Q (fun _ _ => False) s) : wpAny M A t Q E s := wpAny_mono h (fun _ _ q => q) fun _ _ e => e.elim

theorem St1.while {t : Expr} {b : List Stmt} {pos : Pos} (inv : Nat → Loc → Fh → Prop) (n : Nat) (h0 : inv n m f)
    (turn : ∀ n m f, inv n m f → Ts X m f t fun c f₁ => if c = true then Ss X m f₁ b (fun fl m' f' => fl = .next ∧ ∃ k, k < n ∧ inv k m' f') else P .next m f₁) : St1 X m f (.While t b [] pos) P := fun s R => by
  refine wpAny_While (codeAny_whileLoop (fun n s' => ∃ m' f', Sm s s' ∧ Kept X.L f s.heap f' s'.heap ∧ RelF X.G X.L m' f' s'.heap ∧ inv n m' f') ?_ n ⟨m, f, ⟨rfl, rfl, rfl⟩, .refl, R, h0⟩)
  rintro n s' ⟨m', f', sm, k, R', hi⟩
  refine TrB.use (turn n m' f' hi) R' fun c s₂ f₂ sm₂ k₂ R₂ p => ?_
  cases c with
  | true =>
    rw [if_pos rfl] at p ⊢
    refine Tr.then p R₂ fun fl s₃ m₃ f₃ sm₃ k₃ R₃ ⟨e, j, hj, q⟩ => ?_
    cases fl <;> cases e
    exact ⟨j, hj, m₃, f₃, (sm.trans sm₂).trans sm₃, (k.trans k₂).trans k₃, R₃, q⟩
  | false => rw [if_neg (by decide)] at p ⊢; exact wpAny_execs_nil ⟨sm.trans sm₂, m', f₂, R₂, k.trans k₂, p⟩

/-- an iterator at I that hands out vs; it asks `need` of the heap -/
structure Itr (X : Cx) (I : Addr) (vs : List Value) (need : Fh → Prop) (St : Nat → Heap → Prop) : Prop where
  next : ∀ i u f (s : Shared) (Q : Option Value → Shared → Prop) E, vs[i]? = some u → St i s.heap → RelH X.G f s.heap → need f →
    (∀ v h' tk, er v = u → St (i + 1) h' → (∀ b o, b ≠ I → s.heap.get? b = some o → h'.get? b = some o) → Q (some v) { s with heap := h', toks := tk }) → wpAny X.M X.A (pyNext (.ref I)) Q E s
  done : ∀ f (s : Shared) (Q : Option Value → Shared → Prop) E, St vs.length s.heap → RelH X.G f s.heap → need f →
    (∀ h' tk, (∀ b o, b ≠ I → s.heap.get? b = some o → h'.get? b = some o) → Q none { s with heap := h', toks := tk }) → wpAny X.M X.A (pyNext (.ref I)) Q E s
  has : ∀ i h, St i h → ∃ o, h.get? I = some o
  frame : ∀ i h h', St i h → (∀ o, h.get? I = some o → h'.get? I = some o) → St i h'
  self : ∀ (s : Shared) (Q : Value → Shared → Prop) E, St 0 s.heap → Q (.ref I) s → wpAny X.M X.A (pyIter (.ref I)) Q E s
def Src (X : Cx) (f : Fh) (l : Addr) (vs : List Value) (need : Fh → Prop) : Prop := ∀ (s : Shared) (Q : Value → Shared → Prop) E, RelH X.G f s.heap →
  (∀ I St h', s.heap.get? I = none → (∀ b o, s.heap.get? b = some o → h'.get? b = some o) → I < h'.objs.size → St 0 h' → Itr X I vs need St → Q (.ref I) { s with heap := h' }) → wpAny X.M X.A (pyIter (.ref l)) Q E s

theorem Src.list {l : Addr} {vs : List Value} (hh : X.A.handled = none) (h : IsL f l vs) : Src X f l vs fun f => IsL f l vs := fun s Q E R k => by
  obtain ⟨us, g, ev⟩ := R.isL h
  refine wpAny_pyIter_list g (k _ (fun i h => h.IsListIter s.heap.objs.size l i) _ nosize (fun _ _ => Heap.get?_push_of_some _) (by rw [Heap.size_push]; exact Nat.lt_succ_self _) ⟨_, Heap.get?_push_size _ rfl, rfl, rfl⟩ ⟨?_, ?_, ?_, ?_, ?_⟩)
  · intro i u f s Q E hu st R hn hQ
    obtain ⟨us', g', ev'⟩ := R.isL hn
    rw [← ev', List.getElem?_map] at hu
    obtain ⟨v, hv, rfl⟩ := Option.map_eq_some_iff.mp hu
    exact wpAny_pyNext_list_item st g' (x := v) (by simpa using hv) fun h₂ hit₂ hs₂ => hQ v h₂ s.toks rfl hit₂ hs₂.extBut
  · intro f s Q E st R hn hQ
    obtain ⟨us', g', ev'⟩ := R.isL hn
    exact wpAny_pyNext_list_end hh st g' (by rw [← map_len ev']; simp) fun h₂ hs₂ => hQ h₂ s.toks hs₂
  · exact fun i h ⟨o, ho, _⟩ => ⟨o, ho⟩
  · exact fun i h h' st e => st.at e
  · exact fun s Q E st q => wpAny_pyIter_listiter st q
theorem Src.range {r : Addr} {a b : Int} {vs : List Value} (hh : X.A.handled = none) (h : f r = some (.range a b)) (hab : a ≤ b) (ha : -(2 ^ 62) ≤ a) (hb : b < 2 ^ 62) (hv : vs = (List.range (b - a).toNat).map fun i => iv (a + (i : Nat))) :
    Src X f r vs fun _ => True := fun s Q E R k => by
  subst hv
  obtain ⟨t, u, v, g⟩ := R.holds _ _ h
  have hsz : Builtin.Range.rangeSize a b 1 = ((b - a).toNat : Int) := by rw [rangeSize_one]; split <;> omega
  refine wpAny_pyIter_range g (small_one ha (by omega) (by omega) hb) ?_
  rw [hsz]
  refine k _ (fun i h => IsRangeIter h s.heap.objs.size (a + (i : Nat)) (((b - a).toNat : Int) - (i : Nat)) 1) _ nosize (fun _ _ => Heap.get?_push_of_some _) (by rw [Heap.size_push]; exact Nat.lt_succ_self _)
    (by have := Heap.get?_push_size s.heap (o := { cls := .type "range_iterator", data := .fields #[rawInt a, rawInt ((b - a).toNat : Int), rawInt 1] }) rfl; simpa using this) ⟨?_, ?_, ?_, ?_, ?_⟩
  · intro i u f s Q E hu st R hn hQ
    rw [List.getElem?_map] at hu
    obtain ⟨j, hj, rfl⟩ := Option.map_eq_some_iff.mp hu
    have hlt : i < (b - a).toNat := by
      rcases Nat.lt_or_ge i (b - a).toNat with q | q
      · exact q
      · rw [List.getElem?_eq_none (by rw [List.length_range]; exact q)] at hj; cases hj
    rw [List.getElem?_range hlt] at hj
    cases hj
    refine wpAny_pyNext_range_item st (by omega) fun h' hit' hs' => hQ _ h' _ rfl ?_ hs'.extBut
    have e1 : a + ((i + 1 : Nat) : Int) = a + (i : Int) + 1 := by omega
    have e2 : (((b - a).toNat : Nat) : Int) - ((i + 1 : Nat) : Int) = (((b - a).toNat : Nat) : Int) - (i : Int) - 1 := by omega
    rw [e1, e2]; exact hit'
  · intro f s Q E st R hn hQ
    exact wpAny_pyNext_range_end hh st (by simp) fun h' he' => hQ h' s.toks he'
  · exact fun i h st => ⟨_, st⟩
  · exact fun i h h' st e => e _ st
  · exact fun s Q E st q => wpAny_pyIter_rangeiter st q

/-- what only turns at a hidden place -/
theorem RelF.hid {G : Gl} {L I : Addr} {m : Loc} {f : Fh} {hh h' : Heap} (R : RelF G L m f hh) (hf : f I = none) (hb : G.h₀.get? I = none) (hL : I ≠ L) (k : ∀ b o, b ≠ I → hh.get? b = some o → h'.get? b = some o) : RelF G L m f h' :=
  ⟨⟨fun a c e => (R.holds a c e).mono fun o => k a o (by rintro rfl; rw [hf] at e; cases e), fun a o e => k a o (by rintro rfl; rw [hb] at e; cases e) (R.base a o e), R.off⟩,
    let ⟨u, n, e⟩ := R.ns; ⟨u, n.at' fun o => k _ o hL.symm, e⟩, R.loc, R.locb⟩

theorem St1.for {x : PySem.Str} {px pos : Pos} {it : Expr} {b : List Stmt}
    (h : Ex X m f it fun v f₁ => ∃ l vs need, ∃ inv : Nat → Loc → Fh → Prop, v = .ref l ∧ Src X f₁ l vs need ∧ inv 0 m f₁ ∧ (∀ i m₁ f₂, inv i m₁ f₂ → need f₂) ∧
      (∀ i u m₁ f₂, vs[i]? = some u → inv i m₁ f₂ → Ss X (mset m₁ x u) f₂ b fun fl m' f' => fl = .next ∧ inv (i + 1) m' f') ∧ ∀ m' f', inv vs.length m' f' → P .next m' f')
    (hl : X.env.kindOf x = some .local := by rfl) (hk : X.env.scope.kind = .function := by rfl) (hs : ∀ x, foldedSetIterable it X.env x = pure x := by intro _; rfl) : St1 X m f (.For (.Name x px) it b [] pos) P := fun s R => by
  refine wpAny_For (h.use R fun v s₁ f₁ sm k R₁ ⟨l, vs, need, inv, e, src, h0, hL, turn, fin⟩ => ?_) hs
  cases er_ref e
  refine src _ _ _ R₁.toRelH fun I St h₁ hn hk₁ _ st W => ?_
  have hIL : I ≠ X.L := by rintro rfl; obtain ⟨o, q⟩ := R₁.lsome; rw [hn] at q; cases q
  have hIb : X.G.h₀.get? I = none := by
    cases q : X.G.h₀.get? I with
    | none => rfl
    | some o => rw [R₁.base _ _ q] at hn; cases hn
  have hfI : f₁ I = none := R₁.fresh hn
  have hoff : ∀ a o, a ≠ X.L → f a = none → s.heap.get? a = some o → a ≠ I := fun a o q e w => by rintro rfl; have := (k a o q e w).1; rw [hn] at this; cases this
  refine codeAny_forLoop (fun n s' => ∃ i m' f', n = vs.length + 1 - i ∧ i ≤ vs.length ∧ Sm s s' ∧ Kept X.L f s.heap f' s'.heap ∧ RelF X.G X.L m' f' s'.heap ∧ St i s'.heap ∧ f' I = none ∧ inv i m' f') ?_ (vs.length + 1)
    ⟨0, m, f₁, rfl, Nat.zero_le _, sm.trans Sm.rfl, k.trans (Kept.grow hk₁), R₁.grow hk₁, st, hfI, h0⟩
  rintro n s' ⟨i, m', f', rfl, hi, sm', k', R', hit, hfI', hv⟩
  have kI : ∀ h₂ : Heap, (∀ b o, b ≠ I → s'.heap.get? b = some o → h₂.get? b = some o) → Kept X.L f s.heap f' h₂ := fun h₂ k₂ a o q e w => ⟨k₂ a o (hoff a o q e w) (k' a o q e w).1, (k' a o q e w).2⟩
  by_cases hlt : i < vs.length
  · refine W.next i vs[i] f' _ _ _ (List.getElem?_eq_getElem hlt) hit R'.toRelH (hL _ _ _ hv) fun v h₂ tk ev st₂ k₂ => ?_
    have R₂ := R'.hid hfI' hIb hIL k₂
    obtain ⟨u, n, e⟩ := R₂.ns
    refine wpAny_assign_Name (wpAny_storeName_local hl n (fun h₃ n₃ k₃ => ?_) (by rw [hk]; rfl))
    have R₃ := R₂.store e n₃ k₃
    rw [ev] at R₃
    refine Tr.then (s := { s' with heap := h₃, toks := tk + 1 }) (turn i vs[i] m' f' (List.getElem?_eq_getElem hlt) hv) R₃ fun fl s₄ m₄ f₄ sm₄ k₄ R₄ ⟨e, q⟩ => ?_
    cases fl <;> cases e
    have st₃ : St (i + 1) h₃ := W.frame _ _ _ st₂ fun o g => k₃.extBut I o hIL g
    obtain ⟨oI, gI⟩ := W.has _ _ st₃
    obtain ⟨gI₄, fI₄⟩ := k₄ I oI hIL hfI' gI
    exact ⟨vs.length + 1 - (i + 1), by omega, i + 1, m₄, f₄, rfl, hlt, sm'.trans (Sm.trans Sm.rfl sm₄), ((kI h₂ k₂).trans (Kept.store k₃)).trans k₄, R₄, W.frame _ _ _ st₃ (fun o g => by rw [gI] at g; cases g; exact gI₄), fI₄, q⟩
  · have hin : i = vs.length := by omega
    subst hin
    refine W.done f' _ _ _ hit R'.toRelH (hL _ _ _ hv) fun h₂ tk k₂ => wpAny_execs_nil ?_
    exact ⟨sm'.trans Sm.rfl, m', f', R'.hid hfI' hIb hIL k₂, kI h₂ k₂, fin _ _ hv⟩
end

end Mine

namespace Mine
-- Fw5
set_option maxRecDepth 100000
section
variable {G : Gl} {L : Addr} {m : Loc} {f : Fh} {hh h' : Heap}
theorem RelH.hid {I : Addr} (R : RelH G f hh) (hf : f I = none) (hb : G.h₀.get? I = none) (k : ∀ b o, b ≠ I → hh.get? b = some o → h'.get? b = some o) : RelH G f h' :=
  ⟨fun a c e => (R.holds a c e).mono fun o => k a o (by rintro rfl; rw [hf] at e; cases e), fun a o e => k a o (by rintro rfl; rw [hb] at e; cases e) (R.base a o e), R.off⟩
theorem KeptC.grow (k : ∀ b o, hh.get? b = some o → h'.get? b = some o) : KeptC f hh f h' := fun a o e g => ⟨k a o g, e⟩
/-- a hidden object comes into sight -/
theorem RelH.show {a : Addr} {c : Cel} (R : RelH G f hh) (hb : G.h₀.get? a = none) (x : Holds hh a c) : RelH G (fset f a c) hh := by
  refine ⟨fun b c' e => ?_, R.base, fun b o e => ?_⟩
  · by_cases q : b = a
    · subst q; rw [fset_self] at e; cases e; exact x
    · rw [fset_ne q] at e; exact R.holds b c' e
  · rw [fset_ne (by rintro rfl; rw [hb] at e; cases e)]; exact R.off b o e
theorem RelH.nob {a : Addr} (R : RelH G f hh) (hn : hh.get? a = none) : G.h₀.get? a = none := by
  cases q : G.h₀.get? a with
  | none => rfl
  | some o => rw [R.base _ _ q] at hn; cases hn
theorem RelF.keptC {f' : Fh} (R : RelF G L m f hh) (R' : RelH G f' h') (k : KeptC f hh f' h') : RelF G L m f' h' := R.back R' k

def testsOf (ifs : List Expr) (env : Env) : Sem Bool := forIn ifs true fun c r => if r = true then do let ok ← isTrue c env (eval c env); pure (ForInStep.yield ok) else pure (ForInStep.yield r)
theorem tests0 {X : Cx} {P : Bool → Fh → Prop} (h : P true f) : TrB X m f (testsOf [] X.env) P := fun _ R => wpAny_pure (Out.here R ⟨rfl, h⟩)
theorem tests1 {X : Cx} {P : Bool → Fh → Prop} {c : Expr} (h : Ts X m f c P) : TrB X m f (testsOf [c] X.env) P := fun _ R => wpAny_tests_one (h _ R)

abbrev Cx.comp (X : Cx) (scope : Scope) (cl : List (PySem.Str × Addr)) (C : Addr) : Cx := ⟨X.G, X.A, compEnvC scope cl C X.env⟩
/-- what a comprehension over vs asks -/
def CompOk (X : Cx) (m : Loc) (f : Fh) (scope : Scope) (cl : List (PySem.Str × Addr)) (x : PySem.Str) (iter elt : Expr) (ifs : List Expr) (P : List Value → Fh → Prop) : Prop :=
  Ex X m f iter fun v f₁ => ∃ l vs need, ∃ inv : Nat → List Value → Fh → Prop, v = .ref l ∧ Src X f₁ l vs need ∧ vs.length ≤ 1000 ∧ inv 0 [] f₁ ∧ (∀ i acc f₂, inv i acc f₂ → need f₂ ∧ acc.length ≤ i) ∧
    (∀ i u acc f₂ C m₀, vs[i]? = some u → inv i acc f₂ → TrB (X.comp scope cl C) (mset m₀ x u) f₂ (testsOf ifs (compEnvC scope cl C X.env)) fun ok f₃ =>
      if ok = true then Ex (X.comp scope cl C) (mset m₀ x u) f₃ elt fun y f₄ => inv (i + 1) (acc ++ [y]) f₄ else inv (i + 1) acc f₃) ∧ ∀ acc f₂, inv vs.length acc f₂ → P acc f₂

variable {X : Cx}
theorem comp_core {scope : Scope} {cl : List (PySem.Str × Addr)} {x : PySem.Str} {px pos cpos : Pos} {iter elt : Expr} {ifs : List Expr} {P : List Value → Fh → Prop} {use : Option (Value → Sem Unit)} {Q : Value → Shared → Prop} {s : Shared}
    (h : CompOk X m f scope cl x iter elt ifs P) (R : RelF X.G X.L m f s.heap)
    (k : ∀ acc f' D C s' mc, P acc f' → f' D = none → RelF X.G X.L m (fset f' D (.list acc)) s'.heap → Sm s s' → Kept X.L f s.heap (fset f' D (.list acc)) s'.heap → fset f' D (.list acc) C = none → X.G.h₀.get? C = none → C ≠ X.L →
      (∀ o, f C = none → s.heap.get? C = some o → False) → s'.heap.Ns C mc → compPost X.M X.A (fun _ _ => False) use Q (.ref D) C (.ok .next) s')
    (hclos : closureFor scope X.env = pure cl) (hcell : ∀ y ∈ scope.names, y.2 ≠ .cell) (hkind : scope.kind = .function) (hnames : ∀ y ∈ scope.names, y.2 = .local → scope.names.lookup y.1 = some .local)
    (hx : scope.names.lookup x = some .local) (hs : ∀ x, foldedSetIterable iter X.env x = pure x) :
    wpAny X.M X.A (comprehension (.ListComp elt [⟨.Name x px, iter, ifs, 0⟩] scope cpos) scope X.env pos (newList []) false (eval iter X.env) use) Q (fun _ _ => False) s := by
  refine wpAny_comprehension_free rfl hs hclos hkind hnames (h.use R fun v s₁ f₁ sm kp R₁ ⟨l, vs, need, inv, e, src, hz, h0, hL, turn, fin⟩ => ?_)
  cases er_ref e
  refine src _ _ _ R₁.toRelH fun I St h₁ hnI hk₁ hI₁ st W => ?_
  refine wpAny_newObj_type (wpAny_newFunctionEnv hcell (by intro y hy; simp at hy) (fun h₂ hns₂ hsb₂ => ?_) hkind)
  dsimp only at hns₂ hsb₂ ⊢
  have hnD : h₁.get? h₁.objs.size = none := nosize
  have hID : I ≠ h₁.objs.size := Nat.ne_of_lt hI₁
  generalize hD : h₁.objs.size = D at hnD hID hns₂ hsb₂ ⊢
  have gD : (h₁.push { cls := Value.type "list", data := .seq ([] : List Value).toArray }).get? D = some (PySem.W.listOf ([] : List Value).toArray 0) := hD ▸ Heap.get?_push_size _ rfl
  have kH : ∀ b o, h₁.get? b = some o → (h₁.push { cls := Value.type "list", data := .seq ([] : List Value).toArray }).get? b = some o := fun _ _ => Heap.get?_push_of_some _
  generalize h₁.push { cls := Value.type "list", data := .seq ([] : List Value).toArray } = H at *
  have hnC : H.get? H.objs.size = none := nosize
  generalize hC : H.objs.size = C at hnC hns₂ hsb₂ ⊢
  have old : ∀ b o, H.get? b = some o → h₂.get? b = some o := fun b o g => hsb₂.extBut b o (by rintro rfl; rw [hnC] at g; cases g) (Heap.get?_push_of_some _ g)
  have grow : ∀ b o, s₁.heap.get? b = some o → h₂.get? b = some o := fun b o g => old b o (kH b o (hk₁ b o g))
  have nD : s₁.heap.get? D = none := by
    cases q : s₁.heap.get? D with
    | none => rfl
    | some o => rw [hk₁ _ _ q] at hnD; cases hnD
  have nC : s₁.heap.get? C = none := by
    cases q : s₁.heap.get? C with
    | none => rfl
    | some o => rw [kH _ _ (hk₁ _ _ q)] at hnC; cases hnC
  have hDC : D ≠ C := by rintro rfl; rw [gD] at hnC; cases hnC
  have hIC : I ≠ C := by
    rintro rfl
    obtain ⟨o, q⟩ := W.has _ _ st
    rw [kH _ _ q] at hnC; cases hnC
  obtain ⟨oL, gL⟩ := R₁.lsome
  have hLC : X.L ≠ C := by intro q; rw [← q, gL] at nC; cases nC
  have hLD : X.L ≠ D := by intro q; rw [← q, gL] at nD; cases nD
  have hLI : X.L ≠ I := by intro q; rw [← q, gL] at hnI; cases hnI
  have RH : RelH X.G f₁ h₂ := R₁.toRelH.grow grow
  have bI := R₁.toRelH.nob hnI
  have bD := R₁.toRelH.nob nD
  have bC := R₁.toRelH.nob nC
  have key : ∀ s₃ : Shared, s₃ = { s₁ with heap := h₂, toks := s₁.toks + ([] : List (PySem.Str × Value)).length } →
      codeAny X.M X.A (.compLoop (.ListComp elt [⟨.Name x px, iter, ifs, 0⟩] scope cpos) 0 (.ref I) (.ref D) (compEnvC scope cl C X.env)) (compPost X.M X.A (fun _ _ => False) use Q (.ref D) C) s₃ := by
    rintro s₃ rfl
    refine codeAny_compLoop_tests (fun n s' => ∃ i m' f', ∃ us : List Value, n = vs.length + 1 - i ∧ i ≤ vs.length ∧ Sm s s' ∧ KeptC f₁ s₁.heap f' s'.heap ∧ RelF X.G C m' f' s'.heap ∧ St i s'.heap ∧ f' I = none ∧ f' D = none ∧ s'.heap.PlainList D us.toArray ∧ inv i (us.map er) f') ?_
      (vs.length + 1) ⟨0, fun _ => none, f₁, [], rfl, Nat.zero_le _, sm.trans Sm.rfl, KeptC.grow grow, ⟨RH, ⟨_, hns₂, fun _ => rfl⟩, R₁.toRelH.fresh nC, bC⟩,
        W.frame _ _ _ st fun o q => old _ _ (kH _ _ q), R₁.toRelH.fresh hnI, R₁.toRelH.fresh nD, ⟨0, old _ _ gD⟩, h0⟩
    rintro n s' ⟨i, m', f', us, rfl, hi, sm', k', R', hit, fI, fD, hpl, hv⟩
    have ne : ∀ {a o}, s₁.heap.get? a = some o → a ≠ I ∧ a ≠ D ∧ a ≠ C := fun g => ⟨(by rintro rfl; rw [hnI] at g; cases g), (by rintro rfl; rw [nD] at g; cases g), (by rintro rfl; rw [nC] at g; cases g)⟩
    by_cases hlt : i < vs.length
    · refine W.next i vs[i] f' _ _ _ (List.getElem?_eq_getElem hlt) hit R'.toRelH (hL _ _ _ hv).1 fun v h₃ tk ev st₃ k₃ => ?_
      have R₃ := R'.hid fI bI hIC k₃
      obtain ⟨u, n, e⟩ := R₃.ns
      have hkd : (compEnvC scope cl C X.env).kindOf x = some .local := lookup_relabel_local hx
      have hks : (compEnvC scope cl C X.env).scope.kind = .function := hkind
      refine wpAny_assign_Name (wpAny_storeName_local hkd n (fun h₄ n₄ k₄ => ?_) (by rw [hks]; rfl))
      have R₄ := R₃.store e n₄ k₄
      rw [ev] at R₄
      have st₄ : St (i + 1) h₄ := W.frame _ _ _ st₃ fun o g => k₄.extBut I o hIC g
      have K₄ : KeptC f₁ s₁.heap f' h₄ := fun a o q g => ⟨k₄.extBut a o (ne g).2.2 (k₃ a o (ne g).1 (k' a o q g).1), (k' a o q g).2⟩
      have P₄ : h₄.PlainList D us.toArray := hpl.at fun o g => k₄.extBut D o hDC (k₃ D o (Ne.symm hID) g)
      have stay : ∀ {f₂ f₃ : Fh} {H₂ H₃ : Heap}, Kept C f₂ H₂ f₃ H₃ → KeptC f₁ s₁.heap f₂ H₂ → KeptC f₁ s₁.heap f₃ H₃ := fun p q a o e g => p a o (ne g).2.2 (q a o e g).2 (q a o e g).1
      refine wpAny_mono (TrB.use (X := X.comp scope cl C) (s := { s' with heap := h₄, toks := tk + 1 }) (E := fun _ _ => False) (turn i vs[i] (us.map er) f' C m' (List.getElem?_eq_getElem hlt) hv) R₄ fun ok s₅ f₅ sm₅ k₅ R₅ p => ?_) (fun _ _ q => q) fun _ _ e => e.elim
      have st₅ : St (i + 1) s₅.heap := W.frame _ _ _ st₄ fun o g => (k₅ I o hIC fI g).1
      obtain ⟨oI, gI⟩ := W.has _ _ st₄
      obtain ⟨oD, gD₄⟩ : ∃ o, h₄.get? D = some o := ⟨_, P₄.choose_spec⟩
      have fI₅ := (k₅ I oI hIC fI gI).2
      have fD₅ := (k₅ D oD hDC fD gD₄).2
      have P₅ : s₅.heap.PlainList D us.toArray := P₄.at fun o g => (k₅ D o hDC fD g).1
      have K₅ := stay k₅ K₄
      cases ok with
      | false =>
        rw [if_neg (by decide)] at p ⊢
        exact ⟨vs.length + 1 - (i + 1), by omega, i + 1, _, f₅, us, rfl, hlt, sm'.trans (Sm.trans Sm.rfl sm₅), K₅, R₅, st₅, fI₅, fD₅, P₅, p⟩
      | true =>
        rw [if_pos rfl] at p ⊢
        refine wpAny_mono (Ex.use (X := X.comp scope cl C) (E := fun _ _ => False) p R₅ fun y s₆ f₆ sm₆ k₆ R₆ q => ?_) (fun _ _ q => q) fun _ _ e => e.elim
        obtain ⟨oI₅, gI₅⟩ := W.has _ _ st₅
        obtain ⟨oD₅, gD₅⟩ : ∃ o, s₅.heap.get? D = some o := ⟨_, P₅.choose_spec⟩
        have fI₆ := (k₆ I oI₅ hIC fI₅ gI₅).2
        have fD₆ := (k₆ D oD₅ hDC fD₅ gD₅).2
        have P₆ : s₆.heap.PlainList D us.toArray := P₅.at fun o g => (k₆ D o hDC fD₅ g).1
        refine wpAny_list_append_plain P₆ (fun h₇ p₇ k₇ => ?_) ?_
        · refine ⟨vs.length + 1 - (i + 1), by omega, i + 1, _, f₆, us ++ [y], rfl, hlt, (sm'.trans (Sm.trans Sm.rfl sm₅)).trans (Sm.trans sm₆ Sm.rfl), fun a o e g => ?_, R₆.hid fD₆ bD hDC k₇.extBut,
            W.frame _ _ _ st₅ fun o g => k₇.extBut I o hID (k₆ I o hIC fI₅ g).1, fI₆, fD₆, by simpa using p₇, by simpa using q⟩
          have := stay k₆ K₅ a o e g
          exact ⟨k₇.extBut a o (ne g).2.1 this.1, this.2⟩
        · have := (hL _ _ _ hv).2
          rw [List.length_map] at this
          rw [List.size_toArray, sizeLine_eq]; omega
    · have hin : i = vs.length := by omega
      subst hin
      refine W.done f' _ _ _ hit R'.toRelH (hL _ _ _ hv).1 fun h₃ tk k₃ => ?_
      have R₃ := R'.hid fI bI hIC k₃
      have K₃ : KeptC f₁ s₁.heap f' h₃ := fun a o q g => ⟨k₃ a o (ne g).1 (k' a o q g).1, (k' a o q g).2⟩
      obtain ⟨nD', gD'⟩ : h₃.PlainList D us.toArray := hpl.at fun o g => k₃ D o (Ne.symm hID) g
      have RH₃ : RelH X.G (fset f' D (.list (us.map er))) h₃ := R₃.toRelH.show bD ⟨us, nD', gD', rfl⟩
      have K₃' : KeptC f₁ s₁.heap (fset f' D (.list (us.map er))) h₃ := fun a o q g => ⟨(K₃ a o q g).1, by rw [fset_ne (ne g).2.1]; exact (K₃ a o q g).2⟩
      obtain ⟨u, nu, _⟩ := R₃.ns
      refine k (us.map er) f' D C { s' with heap := h₃, toks := tk } u (fin _ _ hv) fD (R₁.back RH₃ K₃') (sm'.trans Sm.rfl) (kp.trans K₃'.toF) (by rw [fset_ne hDC.symm]; exact R₃.loc) bC hLC.symm (fun o e g => ?_) nu
      have := (kp C o hLC.symm e g).1
      rw [nC] at this; cases this
  exact codeAny_compStart_list (key _ rfl) (W.self _ _ _ (W.frame _ _ _ st fun o q => old _ _ (kH _ _ q)) (key _ rfl))

theorem hide_end {C D : Addr} {f' : Fh} {acc : List Value} {s s' : Shared} {h' : Heap} (RD : RelF X.G X.L m (fset f' D (.list acc)) s'.heap) (sm : Sm s s') (k : Kept X.L f s.heap (fset f' D (.list acc)) s'.heap) (fC : fset f' D (.list acc) C = none)
    (bC : X.G.h₀.get? C = none) (nL : C ≠ X.L) (nC : ∀ o, f C = none → s.heap.get? C = some o → False) (hs : Heap.SameBut C s'.heap h') :
    Sm s { s' with heap := h' } ∧ RelF X.G X.L m (fset f' D (.list acc)) h' ∧ Kept X.L f s.heap (fset f' D (.list acc)) h' :=
  ⟨sm.trans ⟨rfl, rfl, rfl⟩, RD.hid fC bC nL hs.extBut, fun a o q e g => ⟨hs.extBut a o (by rintro rfl; exact nC o e g) (k a o q e g).1, (k a o q e g).2⟩⟩
theorem Ex.comp {scope : Scope} {cl : List (PySem.Str × Addr)} {x : PySem.Str} {px cpos : Pos} {iter elt : Expr} {ifs : List Expr} {P : Value → Fh → Prop}
    (h : CompOk X m f scope cl x iter elt ifs fun acc f' => ∀ D, f' D = none → P (.ref D) (fset f' D (.list acc)))
    (hclos : closureFor scope X.env = pure cl) (hcell : ∀ y ∈ scope.names, y.2 ≠ .cell := by decide) (hkind : scope.kind = .function := by rfl) (hnames : ∀ y ∈ scope.names, y.2 = .local → scope.names.lookup y.1 = some .local := by decide)
    (hx : scope.names.lookup x = some .local := by rfl) (hs : ∀ x, foldedSetIterable iter X.env x = pure x := by intro _; rfl) : Ex X m f (.ListComp elt [⟨.Name x px, iter, ifs, 0⟩] scope cpos) P := fun s R => by
  show wpAny _ _ (eval _ _) _ _ _
  rw [eval_ListComp]
  refine comp_core h R (fun acc f' D C s' mc p fD RD sm k fC bC nL nC hn => ⟨mc, hn, fun h' hs' => ?_⟩) hclos hcell hkind hnames hx hs
  obtain ⟨a, b, c⟩ := hide_end RD sm k fC bC nL nC hs'
  exact ⟨a, m, _, b, c, rfl, p D fD⟩
/-- names = [.. for ..] -/
theorem St1.comp {scope : Scope} {cl : List (PySem.Str × Addr)} {x y : PySem.Str} {px py cpos pos : Pos} {iter elt : Expr} {ifs : List Expr} {P : Flow → Loc → Fh → Prop}
    (h : CompOk X m f scope cl x iter elt ifs fun acc f' => ∀ D, f' D = none → P .next (mset m y (.ref D)) (fset f' D (.list acc)))
    (hclos : closureFor scope X.env = pure cl) (hcell : ∀ y ∈ scope.names, y.2 ≠ .cell := by decide) (hkind : scope.kind = .function := by rfl) (hnames : ∀ y ∈ scope.names, y.2 = .local → scope.names.lookup y.1 = some .local := by decide)
    (hx : scope.names.lookup x = some .local := by rfl) (hs : ∀ x, foldedSetIterable iter X.env x = pure x := by intro _; rfl) (hy : X.env.kindOf y = some .local := by rfl) (hk : X.env.scope.kind = .function := by rfl)
    (hsw : swapsWith (.ListComp elt [⟨.Name x px, iter, ifs, 0⟩] scope cpos) (some (.Name y py)) pos.line X.env = pure true := by rfl) :
    St1 X m f (.Assign [.Name y py] (.ListComp elt [⟨.Name x px, iter, ifs, 0⟩] scope cpos) pos) P := fun s R => by
  rw [exec_Assign_Name_used _ _ _ _ hsw]
  refine wpAny_bind (wpAny_standAt (wpAny_bind ?_))
  show wpAny _ X.A (do let _ ← comprehension (.ListComp elt [⟨.Name x px, iter, ifs, 0⟩] scope cpos) scope X.env _ (newList []) false (eval iter X.env) (some (assign (.Name y py) X.env))) _ _ s
  refine wpAny_bind (wpAny_mono (comp_core (use := some (assign (.Name y py) X.env)) (Q := fun _ s' => Out X f s (fun fl m' f' => P (erF fl) m' f') .next s') h R (fun acc f' D C s' mc p fD RD sm k fC bC nL nC hn => ?_) hclos hcell hkind hnames hx hs)
    (fun _ s' hq => wpAny_pure (wpAny_pure hq)) fun _ _ e => e)
  obtain ⟨u, nu, eu⟩ := RD.ns
  refine wpAny_assign_Name (wpAny_storeName_local hy nu (fun h₂ n₂ k₂ => ⟨mc, hn.sameBut k₂ nL, fun h' hs' => ?_⟩) (by rw [hk]; rfl))
  have R₂ := RD.store eu n₂ k₂
  obtain ⟨a, b, c⟩ := hide_end (s' := { s' with heap := h₂, toks := s'.toks + 1 }) (m := mset m y (.ref D)) R₂ (sm.trans Sm.rfl) (k.trans (Kept.store k₂)) fC bC nL nC hs'
  exact ⟨a, _, _, b, c, p D fD⟩
/-- the same where the name is a cell -/
theorem St1.compC {scope : Scope} {cl : List (PySem.Str × Addr)} {x y : PySem.Str} {px py cpos pos : Pos} {iter elt : Expr} {ifs : List Expr} {P : Flow → Loc → Fh → Prop} {c : Addr} {v₀ : Option Value}
    (h : CompOk X m f scope cl x iter elt ifs fun acc f' => f' c = some (.cell v₀) ∧ ∀ D, f' D = none → P .next m (fset (fset f' D (.list acc)) c (.cell (some (.ref D)))))
    (hc : X.env.cells.lookup y = some c) (hclos : closureFor scope X.env = pure cl) (hcell : ∀ y ∈ scope.names, y.2 ≠ .cell := by decide) (hkind : scope.kind = .function := by rfl) (hnames : ∀ y ∈ scope.names, y.2 = .local → scope.names.lookup y.1 = some .local := by decide)
    (hx : scope.names.lookup x = some .local := by rfl) (hs : ∀ x, foldedSetIterable iter X.env x = pure x := by intro _; rfl) (hy : X.env.kindOf y = some .cell := by rfl) (hk : X.env.scope.kind = .function := by rfl)
    (hsw : swapsWith (.ListComp elt [⟨.Name x px, iter, ifs, 0⟩] scope cpos) (some (.Name y py)) pos.line X.env = pure true := by rfl) :
    St1 X m f (.Assign [.Name y py] (.ListComp elt [⟨.Name x px, iter, ifs, 0⟩] scope cpos) pos) P := fun s R => by
  rw [exec_Assign_Name_used _ _ _ _ hsw]
  refine wpAny_bind (wpAny_standAt (wpAny_bind ?_))
  show wpAny _ X.A (do let _ ← comprehension (.ListComp elt [⟨.Name x px, iter, ifs, 0⟩] scope cpos) scope X.env _ (newList []) false (eval iter X.env) (some (assign (.Name y py) X.env))) _ _ s
  refine wpAny_bind (wpAny_mono (comp_core (use := some (assign (.Name y py) X.env)) (Q := fun _ s' => Out X f s (fun fl m' f' => P (erF fl) m' f') .next s') h R (fun acc f' D C s' mc p fD RD sm k fC bC nL nC hn => ?_) hclos hcell hkind hnames hx hs)
    (fun _ s' hq => wpAny_pure (wpAny_pure hq)) fun _ _ e => e)
  have hcD : c ≠ D := by rintro rfl; rw [p.1] at fD; cases fD
  have hcC : C ≠ c := by rintro rfl; rw [fset_ne hcD, p.1] at fC; cases fC
  have ec : fset f' D (.list acc) c = some (.cell v₀) := by rw [fset_ne hcD]; exact p.1
  obtain ⟨o, u, g, d, e⟩ := RD.holds c _ ec
  refine wpAny_assign_Name (wpAny_storeName_cell hk hy hc ⟨o, g, d⟩ fun h₂ v₂ k₂ => ⟨mc, hn.sameBut k₂ hcC, fun h' hs' => ?_⟩)
  obtain ⟨o₂, g₂, d₂⟩ := v₂
  have R₂ := RD.upd (c' := .cell (some (.ref D))) ec k₂.extBut ⟨o₂, some (.ref D), g₂, d₂, rfl⟩
  have K₂ : Kept X.L (fset f' D (.list acc)) s'.heap (fset (fset f' D (.list acc)) c (.cell (some (.ref D)))) h₂ := Kept.upd ec k₂.extBut
  refine ⟨sm.trans ⟨rfl, rfl, rfl⟩, m, _, R₂.hid (by rw [fset_ne hcC]; exact fC) bC nL hs'.extBut, fun a o q e g => ?_, p.2 D fD⟩
  have := (k.trans K₂) a o q e g
  exact ⟨hs'.extBut a o (by rintro rfl; exact nC o e g) this.1, this.2⟩
end

end Mine

namespace Mine
-- Fw6
set_option maxRecDepth 100000
theorem map0 {us : List Value} (e : us.map er = []) : us = [] := List.map_eq_nil_iff.mp e
theorem mapc {us : List Value} {a : Value} {r : List Value} (e : us.map er = a :: r) : ∃ u us', us = u :: us' ∧ er u = a ∧ us'.map er = r := List.map_eq_cons_iff.mp e
theorem map1 {us : List Value} {a : Value} (e : us.map er = [a]) : ∃ u, us = [u] ∧ er u = a := by
  obtain ⟨u, r, rfl, e1, e2⟩ := mapc e; cases map0 e2; exact ⟨u, rfl, e1⟩
theorem map2 {us : List Value} {a b : Value} (e : us.map er = [a, b]) : ∃ u v, us = [u, v] ∧ er u = a ∧ er v = b := by
  obtain ⟨u, r, rfl, e1, e2⟩ := mapc e; obtain ⟨v, rfl, e3⟩ := map1 e2; exact ⟨u, v, rfl, e1, e3⟩
theorem map3 {us : List Value} {a b c : Value} (e : us.map er = [a, b, c]) : ∃ u v w, us = [u, v, w] ∧ er u = a ∧ er v = b ∧ er w = c := by
  obtain ⟨u, r, rfl, e1, e2⟩ := mapc e; obtain ⟨v, w, rfl, e3, e4⟩ := map2 e2; exact ⟨u, v, w, rfl, e1, e3, e4⟩
section
variable {G : Gl} {L : Addr} {m : Loc} {f : Fh} {hh h' : Heap}
theorem RelF.updS {a : Addr} {c c' : Cel} (R : RelF G L m f hh) (e : f a = some c) (k : ∀ b o, b ≠ a → b ≠ L → hh.get? b = some o → h'.get? b = some o) (n : ∀ u, hh.Ns L u → h'.Ns L u) (x : Holds h' a c') : RelF G L m (fset f a c') h' := by
  have hL : L ≠ a := by rintro rfl; rw [R.loc] at e; cases e
  refine ⟨⟨fun b c₁ e₁ => ?_, fun b o e₁ => k _ _ (fun q => ?_) (fun q => ?_) (R.base b o e₁), fun b o e₁ => ?_⟩, let ⟨u, nu, e⟩ := R.ns; ⟨u, n u nu, e⟩, by rw [fset_ne hL]; exact R.loc, R.locb⟩
  · by_cases q : b = a
    · subst q; rw [fset_self] at e₁; cases e₁; exact x
    · rw [fset_ne q] at e₁; exact (R.holds b c₁ e₁).mono fun o => k b o q (by rintro rfl; rw [R.loc] at e₁; cases e₁)
  · subst q; rw [R.off b o e₁] at e; cases e
  · rw [q, R.locb] at e₁; cases e₁
  · by_cases q : b = a
    · subst q; rw [R.off b o e₁] at e; cases e
    · rw [fset_ne q]; exact R.off b o e₁
theorem Kept.updS {a : Addr} {c c' : Cel} (e : f a = some c) (k : ∀ b o, b ≠ a → b ≠ L → hh.get? b = some o → h'.get? b = some o) : Kept L f hh (fset f a c') h' :=
  fun b o n e₁ g => have q : b ≠ a := by rintro rfl; rw [e] at e₁; cases e₁
    ⟨k _ _ q n g, by rw [fset_ne q]; exact e₁⟩
end
section
variable {X : Cx} {m : Loc} {f : Fh}
def TrU (X : Cx) (m : Loc) (f : Fh) (t : Sem Unit) (P : Fh → Prop) : Prop := Tr X m f t fun _ m' f' => m' = m ∧ P f'
theorem TrU.use {t : Sem Unit} {P : Fh → Prop} {s : Shared} {Q : Unit → Shared → Prop} {E : Value → Shared → Prop} (h : TrU X m f t P) (R : RelF X.G X.L m f s.heap)
    (k : ∀ s' f', Sm s s' → Kept X.L f s.heap f' s'.heap → RelF X.G X.L m f' s'.heap → P f' → Q () s') : wpAny X.M X.A t Q E s :=
  Tr.then h R fun _ s' m' f' sm kp R' ⟨a, b⟩ => by subst a; exact k s' f' sm kp R' b
structure SetOk (K : Frag) (C : Addr) (n : PySem.Str) : Prop where
  sa : findIn K (.ref C) "__setattr__" = some (some (.builtin "object.__setattr__"))
  po : plainOver K C = true
  tk : takerIn K C n = some none
  hd : hasDictIn K C = true
/-- x.n = v -/
theorem setAttr_ {a C d : Addr} {es : List DictEntry} {n : PySem.Str} {v : Value} {P : Fh → Prop} (hG : X.G.Ok) (ok : SetOk X.G.K C n) (ha : f a = some (.inst C d)) (hd : f d = some (.dict es)) (hl : (getL n es).isSome = true) (hz : es.length ≤ 100)
    (h : P (fset f d (.dict (putL n (PyData.keyHash X.G.w.params n) (sv n) (er v) es)))) : TrU X m f (setAttr (.ref a) n v) P := fun s R => by
  obtain ⟨us, k, g, rfl⟩ := R.holds d _ hd
  obtain ⟨u, nu, eu⟩ := R.ns
  have I : W.InstAt s.heap a (instObj C d) C (some (dictOf us k)) := ⟨R.holds a _ ha, rfl, rfl, g⟩
  have hdL : d ≠ X.L := by rintro rfl; rw [R.loc] at hd; cases hd
  have N : News hO X.L s.heap ([] ++ (d, dictOf us k) :: rest s.heap [X.L, d]) := fun p hp => by
    rcases List.mem_cons.mp hp with rfl | hp
    · exact ⟨g, hdL, hO_get⟩
    · exact newsE (.head _) p hp
  rw [getL_er, Option.isSome_map] at hl
  rw [List.length_map] at hz
  have hz' : (putL n (PyData.keyHash X.G.w.params n) (.str n (s.toks + 1)) v us).length ≤ 1000 := by
    have : ∀ us : List DictEntry, (putL n (PyData.keyHash X.G.w.params n) (.str n (s.toks + 1)) v us).length ≤ us.length + 1 := fun us => by
      induction us with
      | nil => exact Nat.le_refl _
      | cons e r ih =>
        simp only [putL]
        split
        · simp
        · simp only [List.length_cons]; omega
    have := this us; omega
  refine set_plain (hG.K.keeps R.base) I ok.sa (osa_dict (s := { s with toks := s.toks + 1 }) (frE nu) N (hG.K.keeps R.base) I rfl ok.po ok.tk ok.hd hl (fun p hp => nomatch hp) (fun p hp q => (of_rest hp).2 (q ▸ (.tail _ (.head _)))) (putName_dict ..) rfl hz' fun h' F' N' => ?_)
  have k' : ∀ b o, b ≠ d → b ≠ X.L → s.heap.get? b = some o → h'.get? b = some o := fun b o q q' e => (N' (b, o) (.tail _ (mem_rest e (by simp [q, q'])))).1
  have g' : h'.get? d = some _ := (N' _ (.head _)).1
  refine ⟨Sm.rfl, m, _, R.updS (c' := .dict (putL n (PyData.keyHash X.G.w.params n) (sv n) (er v) (us.map erE))) hd k' (fun u' n' => ?_) ⟨_, _, g', putL_er ..⟩, Kept.updS hd k', rfl, h⟩
  obtain ⟨o, es, ep, a1, a2, a3, a4⟩ := F'.ns
  obtain ⟨o2, es2, ep2, b1, b2, b3, b4⟩ := nu
  obtain ⟨o3, es3, ep3, c1, c2, c3, c4⟩ := n'
  rw [b1] at c1; cases c1
  rw [b2] at c2; cases c2
  exact ⟨o, es, ep, a1, a2, a3, fun y => by rw [a4, ← b4, c4]⟩
theorem St1.attr {o e : Expr} {n : PySem.Str} {ap pos : Pos} {P : Flow → Loc → Fh → Prop} (hG : X.G.Ok)
    (h : Ex X m f e fun v f₁ => Ex X m f₁ o fun w f₂ => ∃ a C d es, w = .ref a ∧ SetOk X.G.K C n ∧ f₂ a = some (.inst C d) ∧ f₂ d = some (.dict es) ∧ (getL n es).isSome = true ∧ es.length ≤ 100 ∧
      P .next m (fset f₂ d (.dict (putL n (PyData.keyHash X.G.w.params n) (sv n) v es))))
    (hs : swapsWith e (some (.Attribute o n ap)) pos.line X.env = pure false := by rfl) : St1 X m f (.Assign [.Attribute o n ap] e pos) P := fun _ R =>
  plainObj_wpAny_Assign_Attribute (h.use R fun v _ _ sm k R h => h.use R fun w _ _ sm' k' R ⟨a, C, d, es, e, ok, ha, hd, hl, hz, p⟩ => by
    cases er_ref e
    exact TrU.use (setAttr_ (P := P .next m) hG ok ha hd hl hz p) R fun _ _ sm'' k'' R p => Out.from ((sm.trans sm').trans sm'') ((k.trans k').trans k'') (Out.here R p)) hs
/-- l[k] = v -/
theorem setItem_ {l : Addr} {xs : List Value} {k : Int} {t : Tok} {v : Value} {P : Fh → Prop} (hl : IsL f l xs) (h0 : 0 ≤ k) (h1 : k < xs.length) (hz : xs.length ≤ 1000000) (h : P (fset f l (.vec (xs.set k.toNat (er v))))) :
    TrU X m f (setItem (.ref l) (.int k t) v) P := fun s R => by
  obtain ⟨us, g, rfl⟩ := R.isL hl
  obtain ⟨c, hc⟩ := hl.ex
  rw [List.length_map] at h1 hz
  refine wpAny_setItem_list g h0 (by omega) (by simpa using h1) fun h' g' k' => ⟨Sm.rfl, m, _, R.upd (c' := .vec ((us.map er).set k.toNat (er v))) hc k'.extBut ⟨us.set k.toNat v, by simpa using g', by rw [List.map_set]⟩, Kept.upd hc k'.extBut, rfl, h⟩
theorem St1.item {o i e : Expr} {ip pos : Pos} {P : Flow → Loc → Fh → Prop}
    (h : Ex X m f e fun v f₁ => Ex X m f₁ o fun w f₂ => Ex X m f₂ i fun j f₃ => ∃ l xs k, w = .ref l ∧ j = iv k ∧ IsL f₃ l xs ∧ 0 ≤ k ∧ k < xs.length ∧ xs.length ≤ 1000000 ∧ P .next m (fset f₃ l (.vec (xs.set k.toNat v))))
    (hs : swapsWith e (some (.Subscript o i ip)) pos.line X.env = pure false := by rfl) : St1 X m f (.Assign [.Subscript o i ip] e pos) P := fun _ R =>
  wpAny_Assign_Subscript (h.use R fun v _ _ sm k R h => h.use R fun w _ _ sm' k' R h => h.use R fun j _ _ sm₃ k₃ R ⟨l, xs, kk, e, e', hl, h0, h1, hz, p⟩ => by
    cases er_ref e
    obtain ⟨t, rfl⟩ := er_int e'
    exact TrU.use (setItem_ (P := P .next m) hl h0 h1 hz p) R fun _ _ sm'' k'' R p => Out.from (((sm.trans sm').trans sm₃).trans sm'') (((k.trans k').trans k₃).trans k'') (Out.here R p)) hs
/-- o[i] += e, of ints -/
theorem St1.augItem {o i e : Expr} {ip pos : Pos} {P : Flow → Loc → Fh → Prop}
    (h : Ex X m f o fun w f₁ => Ex X m f₁ i fun j f₂ => ∃ l xs k x, w = .ref l ∧ j = iv k ∧ IsL f₂ l xs ∧ 0 ≤ k ∧ xs[k.toNat]? = some (iv x) ∧ xs.length ≤ 1000000 ∧ Ex X m f₂ e fun v f₃ => ∃ y, v = iv y ∧ IsL f₃ l xs ∧ P .next m (fset f₃ l (.vec (xs.set k.toNat (iv (x + y))))))
    (ha : ∀ ov iv new, augStore i ov iv new = (do holding [new, ov, iv] (setItem ov iv new); release [new, ov, iv] []; pure .next) := by intros; rfl) : St1 X m f (.AugAssign (.Subscript o i ip) .Add e pos) P := fun _ R =>
  wpAny_AugAssign_SubscriptAny (h.use R fun w _ _ sm k R h => h.use R fun j _ _ sm' k' R ⟨l, xs, kk, x, q, q', hl, h0, hx, hz, hE⟩ => by
    cases er_ref q
    obtain ⟨t, rfl⟩ := er_int q'
    obtain ⟨us, g, ev⟩ := R.isL hl
    have hx' := hx
    rw [← ev, List.getElem?_map] at hx'
    obtain ⟨x', hx', ex⟩ := Option.map_eq_some_iff.mp hx'
    obtain ⟨t', rfl⟩ := er_int ex
    have h1 : kk < xs.length := by
      have := (List.getElem?_eq_some_iff.mp hx).1
      omega
    refine getItem_listL g h0 (by omega) hx' (Ex.use hE R fun v s₃ _ sm₃ k₃ R ⟨y, q, hl, p⟩ => ?_)
    obtain ⟨t'', rfl⟩ := er_int q
    exact iadd_int (TrU.use (s := { s₃ with toks := s₃.toks + 1 }) (setItem_ (P := P .next m) hl h0 h1 hz p) R fun _ _ sm'' k'' R p =>
      Out.from (((sm.trans sm').trans sm₃).trans (Sm.trans (Sm.rfl (s := s₃) (h := s₃.heap) (t := s₃.toks + 1)) sm'')) (((k.trans k').trans k₃).trans k'') (Out.here R p))) ha

-- slices
def pickL (xs : List Value) (lo hi st : Option Int) : List Value := (sliceRange (sliceBounds lo hi st xs.length).1 (sliceBounds lo hi st xs.length).2.1 (sliceBounds lo hi st xs.length).2.2).filterMap (xs[·]?)
def PartOk (X : Cx) (m : Loc) (f : Fh) (e : Option Expr) (P : Option Int → Fh → Prop) : Prop := match e with
  | none => P none f
  | some e => Ex X m f e fun v f₁ => ∃ i, v = iv i ∧ P (some i) f₁
theorem PartOk.use {e : Option Expr} {P : Option Int → Fh → Prop} {s : Shared} {Q : Value → Shared → Prop} (h : PartOk X m f e P) (R : RelF X.G X.L m f s.heap)
    (k : ∀ v s' f' i, IsPart v i → Sm s s' → Kept X.L f s.heap f' s'.heap → RelF X.G X.L m f' s'.heap → P i f' → Q v s') : wpAny X.M X.A (evalPart e X.env) Q (fun _ _ => False) s := by
  cases e with
  | none => exact wpAny_pure (k _ _ _ _ .none ⟨rfl, rfl, rfl⟩ .refl R h)
  | some e => exact Ex.use h R fun v s' f' sm kp R ⟨i, e, p⟩ => by obtain ⟨t, rfl⟩ := er_int e; exact k _ _ _ _ (.int ..) sm kp R p
/-- a list that every heap of f holds -/
def LL (G : Gl) (f : Fh) (l : Addr) (vs : List Value) : Prop := ∀ hh, RelH G f hh → ∃ us : List Value, hh.IsList l us.toArray ∧ us.map er = vs
theorem IsL.ll {G : Gl} {f : Fh} {l : Addr} {vs : List Value} (h : IsL f l vs) : LL G f l vs := fun _ R => R.isL h
def BaseL (h : Heap) (l : Addr) (vs : List Value) : Prop := ∃ us : List Value, h.IsList l us.toArray ∧ us.map er = vs
theorem BaseL.ll {G : Gl} {f : Fh} {l : Addr} {vs : List Value} (h : BaseL G.h₀ l vs) : LL G f l vs := fun _ R => let ⟨us, ⟨o, a, b⟩, c⟩ := h; ⟨us, ⟨o, R.base _ _ a, b⟩, c⟩
theorem PartOk.mono {e : Option Expr} {P P' : Option Int → Fh → Prop} (h : PartOk X m f e P) (k : ∀ i f', P i f' → P' i f') : PartOk X m f e P' := by
  cases e with
  | none => exact k _ _ h
  | some e => exact Ex.mono (P := fun v f₁ => ∃ i, v = iv i ∧ P (some i) f₁) h fun v f' ⟨i, a, b⟩ => ⟨i, a, k _ _ b⟩
theorem Ex.sliceG {o : Expr} {lo hi st : Option Expr} {sp pos : Pos} {P : Value → Fh → Prop} {ops : Value → Value → List Value}
    (h : Ex X m f o fun v f₁ => PartOk X m f₁ lo fun lo f₂ => PartOk X m f₂ hi fun hi f₃ => PartOk X m f₃ st fun st f₄ => st ≠ some 0 ∧ ∃ l xs, v = .ref l ∧ LL X.G f₄ l xs ∧ xs.length ≤ 1000000 ∧ ∀ D, f₄ D = none → P (.ref D) (fset f₄ D (.list (pickL xs lo hi st))))
    (hs : ∀ v w : Value, subscripted (.Slice lo hi st sp) false v w = operate (ops v w) (getItem v w) := by intro _ _; rfl) : Ex X m f (.Subscript o (.Slice lo hi st sp) pos) P := fun s R =>
  Subscript_ (h.use R fun v _ _ sm k R h => wpAny_Slice (PartOk.use h R fun v1 _ _ i1 p1 sm1 k1 R h => PartOk.use h R fun v2 _ _ i2 p2 sm2 k2 R h => PartOk.use h R fun v3 s₄ f₄ i3 p3 sm3 k3 R ⟨h0, l, xs, e, hl, hz, p⟩ => by
    cases er_ref e
    obtain ⟨us, g, rfl⟩ := hl _ R.toRelH
    have hz' : us.toArray.size ≤ sizeLine := by rw [List.length_map] at hz; rw [List.size_toArray, sizeLine_eq]; omega
    refine tail_any (Heap.IsList.typeIs (s := { s₄ with heap := _ }) (g.push _)) slot_list_getitem.lookup (wpAny_getItem_list_slice (hsz := hz') (g.push _) (Heap.IsSliceOf.new ..) p1 p2 p3 h0 ?_) (hs _ _)
    · have kk : ∀ b o, s₄.heap.get? b = some o → (Heap.push (s₄.heap.push { cls := .type "slice", data := .fields #[v1, v2, v3] }) { cls := .type "list", data := .seq (slicePick us.toArray i1 i2 i3) }).get? b = some o := fun _ _ e => Heap.get?_push_of_some _ (Heap.get?_push_of_some _ e)
      refine Out.from (((sm.trans sm1).trans sm2).trans sm3) (((k.trans k1).trans k2).trans k3) (Out.newE (t := s₄.toks) (c := .list (pickL (us.map er) i1 i2 i3)) R kk ?_ ⟨(slicePick us.toArray i1 i2 i3).toList, 0, ?_, ?_⟩ p)
      · cases q : s₄.heap.get? (s₄.heap.push { cls := .type "slice", data := .fields #[v1, v2, v3] }).objs.size with
        | none => rfl
        | some o => have := Heap.lt_size q; rw [Heap.size_push] at this; exact absurd (Nat.lt_of_succ_lt this) (Nat.lt_irrefl _)
      · rw [Array.toArray_toList]; exact Heap.get?_push_size _ rfl
      · unfold slicePick pickL
        rw [List.map_filterMap, List.length_map]
        simp only [List.size_toArray]
        congr 1
        funext j
        simp))
theorem Ex.slice {o : Expr} {lo hi st : Option Expr} {sp pos : Pos} {P : Value → Fh → Prop} {ops : Value → Value → List Value}
    (h : Ex X m f o fun v f₁ => PartOk X m f₁ lo fun lo f₂ => PartOk X m f₂ hi fun hi f₃ => PartOk X m f₃ st fun st f₄ => st ≠ some 0 ∧ ∃ l xs, v = .ref l ∧ IsL f₄ l xs ∧ xs.length ≤ 1000000 ∧ ∀ D, f₄ D = none → P (.ref D) (fset f₄ D (.list (pickL xs lo hi st))))
    (hs : ∀ v w : Value, subscripted (.Slice lo hi st sp) false v w = operate (ops v w) (getItem v w) := by intro _ _; rfl) : Ex X m f (.Subscript o (.Slice lo hi st sp) pos) P :=
  Ex.sliceG (h.mono fun _ _ h => h.mono fun _ _ h => h.mono fun _ _ h => h.mono fun _ _ ⟨h0, l, xs, e, hl, r⟩ => ⟨h0, l, xs, e, hl.ll, r⟩) hs
end

end Mine

namespace Mine
-- Fw7
set_option maxRecDepth 100000
section
variable {X : Cx} {m : Loc} {f : Fh} {P : Value → Fh → Prop}
-- calls of built-ins: what the values mean
theorem Ca.int {i : Int} (h : P (iv i) f) : Ca X m f (.type "int") [iv i] P := fun us q s R => by
  obtain ⟨u, rfl, e⟩ := map1 q; obtain ⟨t, rfl⟩ := er_int e; exact call_int_int (Out.hereE R h)
theorem Ca.intb {b : Bool} (h : P (iv (if b = true then 1 else 0)) f) : Ca X m f (.type "int") [.bool b] P := fun us q s R => by
  obtain ⟨u, rfl, e⟩ := map1 q; cases er_bool e; exact call_int_bool (Out.hereE R h)
theorem Ca.abs {i : Int} (h : P (iv (if i < 0 then -i else i)) f) : Ca X m f (.builtin "abs") [iv i] P := fun us q s R => by
  obtain ⟨u, rfl, e⟩ := map1 q; obtain ⟨t, rfl⟩ := er_int e; exact call_abs_int fun _ _ => Out.hereE R h
theorem Ca.len {l : Addr} {xs : List Value} (hl : IsL f l xs) (hz : xs.length ≤ 1000000) (h : P (iv xs.length) f) : Ca X m f (.builtin "len") [.ref l] P := fun us q s R => by
  obtain ⟨u, rfl, e⟩ := map1 q; cases er_ref e
  obtain ⟨us, g, rfl⟩ := R.isL hl
  rw [List.length_map] at hz
  rw [List.length_map] at h
  refine len_list g (by simp; omega) (Out.hereE R ?_)
  rw [List.size_toArray]; exact h
theorem Ca.range1 {n : Int} (h : ∀ r, f r = none → P (.ref r) (fset f r (.range 0 n))) : Ca X m f (.type "range") [iv n] P := fun us q s R => by
  obtain ⟨u, rfl, e⟩ := map1 q; obtain ⟨t, rfl⟩ := er_int e
  exact call_range_1 (Out.newE (c := .range 0 n) R (fun _ _ => Heap.get?_push_of_some _) nosize ⟨_, _, _, Heap.get?_push_size _ rfl⟩ h)
theorem Ca.range2 {a n : Int} (h : ∀ r, f r = none → P (.ref r) (fset f r (.range a n))) : Ca X m f (.type "range") [iv a, iv n] P := fun us q s R => by
  obtain ⟨u, v, rfl, e, e'⟩ := map2 q; obtain ⟨t, rfl⟩ := er_int e; obtain ⟨t', rfl⟩ := er_int e'
  exact call_range_2 (Out.newE (c := .range a n) R (fun _ _ => Heap.get?_push_of_some _) nosize ⟨_, _, _, Heap.get?_push_size _ rfl⟩ h)
theorem Ca.append {l : Addr} {xs : List Value} {v : Value} (hl : f l = some (.list xs)) (hz : xs.length ≤ 1000000) (h : P .none (fset f l (.list (xs ++ [v])))) : Ca X m f (.builtin "list.append") [.ref l, v] P := fun us q s R => by
  obtain ⟨u, w, rfl, e, rfl⟩ := map2 q; cases er_ref e
  obtain ⟨us, n, g, rfl⟩ := R.holds _ _ hl
  rw [List.length_map] at hz
  refine wpAny_list_append_plain (hsz := by rw [List.size_toArray, sizeLine_eq]; omega) ⟨n, g⟩ fun h' ⟨n', g'⟩ k => ⟨Sm.rfl, m, _, R.upd (c' := .list (us.map er ++ [er w])) hl k.extBut ⟨us ++ [w], n', by simpa using g', by simp⟩, Kept.upd hl k.extBut, rfl, h⟩
theorem Ca.reverse {l : Addr} {xs : List Value} (hl : f l = some (.list xs)) (hz : xs.length ≤ 1000000) (h : P .none (fset f l (.list xs.reverse))) : Ca X m f (.builtin "list.reverse") [.ref l] P := fun us q s R => by
  obtain ⟨u, rfl, e⟩ := map1 q; cases er_ref e
  obtain ⟨us, n, g, rfl⟩ := R.holds _ _ hl
  rw [List.length_map] at hz
  refine call_meets PySem.F.slot_list_reverse ⟨_, g, rfl⟩ PySem.F.entry_list_reverse (PySem.F.args_list_reverse_1 _) (AutoSeq1.list_reverse_list_0 l us.toArray n (by rw [List.size_toArray, sizeLine_eq]; omega)) ⟨g, ?_⟩
  have k := Heap.SameBut.update (a := l) (h := s.heap) (f := Obj.mapSeq fun xs => xs.toList.reverse.toArray)
  refine ⟨⟨rfl, rfl, rfl⟩, m, _, R.upd (c' := .list (us.map er).reverse) hl (Heap.SameBut.update ..).extBut ⟨us.reverse, n, ?_, by rw [List.map_reverse]⟩, Kept.upd hl (Heap.SameBut.update ..).extBut, rfl, h⟩
  rw [Heap.get?_update_self _ g (by rw [mapSeq_reverse]; rfl), mapSeq_reverse]
theorem Ca.listOf {l : Addr} {xs : List Value} (hl : IsL f l xs) (hz : xs.length ≤ 1000000) (h : ∀ D, f D = none → P (.ref D) (fset f D (.list xs))) : Ca X m f (.type "list") [.ref l] P := fun us q s R => by
  obtain ⟨u, rfl, e⟩ := map1 q; cases er_ref e
  obtain ⟨us, ⟨o, ho, hc, n, hd⟩, rfl⟩ := R.isL hl
  rw [List.length_map] at hz
  exact call_list_seq (hsz := by rw [List.size_toArray, sizeLine_eq]; omega) l (.inl rfl) ho hc hd fun h' c' hk hD => Out.newE (c := .list (us.map er)) R hk nosize ⟨us, c', hD, rfl⟩ h
theorem Ca.listOfRange {r : Addr} {n : Int} (hh : X.A.handled = none) (hr : f r = some (.range 0 n)) (h0 : 0 ≤ n) (hz : n ≤ 1000000) (h : ∀ D, f D = none → P (.ref D) (fset f D (.list ((List.range n.toNat).map fun i => iv (i : Nat))))) : Ca X m f (.type "list") [.ref r] P := fun us q s R => by
  obtain ⟨u, rfl, e⟩ := map1 q; cases er_ref e
  obtain ⟨t, u, v, g⟩ := R.holds _ _ hr
  refine call_list_range (n := n.toNat) hh g (small_one (by omega) (by omega) (by omega) (by omega)) (by rw [rangeSize_one]; split <;> omega) (by omega) fun h' tk acc c' hk hD hi => ?_
  refine Out.newE (c := .list ((List.range n.toNat).map fun i => iv (i : Nat))) R hk nosize ⟨acc.toList, c', by rw [Array.toArray_toList]; exact hD, ?_⟩ h
  obtain ⟨hs, hi⟩ := hi
  apply List.ext_getElem?
  intro i
  rw [List.getElem?_map, List.getElem?_map]
  by_cases hlt : i < n.toNat
  · obtain ⟨v, hv⟩ : ∃ v, acc[i]? = some v := ⟨acc[i]'(by omega), by simp [hs, hlt]⟩
    obtain ⟨t, rfl⟩ := hi i v hv
    rw [List.getElem?_range hlt, Array.getElem?_toList, hv]
    simp [er]
  · rw [List.getElem?_eq_none (by simp; omega), List.getElem?_eq_none (by simp; omega)]; rfl
theorem intsOf {us : List Value} {ns : List Int} (e : us.map er = ns.map iv) : IntsAre us ns := by
  induction ns generalizing us with
  | nil => cases map0 e; exact .nil
  | cons n r ih =>
    obtain ⟨u, us', rfl, e1, e2⟩ := mapc e
    obtain ⟨t, rfl⟩ := er_int e1
    exact .cons n t (ih e2)
theorem Ca.sum {l : Addr} {ns : List Int} (hh : X.A.handled = none) (hl : IsL f l (ns.map iv)) (h : ∀ i, P (iv i) f) : Ca X m f (.builtin "sum") [.ref l] P := fun us q s R => by
  obtain ⟨u, rfl, e⟩ := map1 q; cases er_ref e
  obtain ⟨us, g, e⟩ := R.isL hl
  obtain ⟨xs, e'⟩ := (intsOf e).allInts.items
  rw [e'] at g
  exact sum_intListG hh g fun h' tk t' hk => Out.growE R hk (h _)
theorem Ca.min {l : Addr} {ns : List Int} (hh : X.A.handled = none) (hl : IsL f l (ns.map iv)) (hn : 0 < ns.length) (h : ∀ M, M ∈ ns → (∀ a, a ∈ ns → M ≤ a) → P (iv M) f) : Ca X m f (.builtin "min") [.ref l] P := fun us q s R => by
  obtain ⟨u, rfl, e⟩ := map1 q; cases er_ref e
  obtain ⟨us, g, e⟩ := R.isL hl
  obtain ⟨u, nu, _⟩ := R.ns
  refine min_list_N hh (frE nu) (newsE (ex := [X.L]) (.head _)) g (intsOf e) hn fun h' M t tk F' N' hM hle => Out.sameE R ⟨fun b o q g => (N' _ (mem_rest g (by simpa using q))).1, fun u' n' => ?_⟩ (h M hM hle)
  obtain ⟨o, es, ep, a1, a2, a3, a4⟩ := F'.ns
  obtain ⟨o2, es2, ep2, b1, b2, b3, b4⟩ := nu
  obtain ⟨o3, es3, ep3, c1, c2, c3, c4⟩ := n'
  rw [b1] at c1; cases c1
  rw [b2] at c2; cases c2
  exact ⟨o, es, ep, a1, a2, a3, fun y => by rw [a4, ← b4, c4]⟩
theorem Ca.min2 {i j : Int} (hh : X.A.handled = none) (h : P (iv (if j < i then j else i)) f) : Ca X m f (.builtin "min") [iv i, iv j] P := fun us q s R => by
  obtain ⟨u, v, rfl, e, e'⟩ := map2 q; obtain ⟨t, rfl⟩ := er_int e; obtain ⟨t', rfl⟩ := er_int e'
  exact min_two_ints hh fun h' tk hk => Out.growE R hk (by split <;> simp_all [er])
theorem Ca.max2 {i j : Int} (hh : X.A.handled = none) (h : P (iv (if i < j then j else i)) f) : Ca X m f (.builtin "max") [iv i, iv j] P := fun us q s R => by
  obtain ⟨u, v, rfl, e, e'⟩ := map2 q; obtain ⟨t, rfl⟩ := er_int e; obtain ⟨t', rfl⟩ := er_int e'
  exact max_two_ints hh fun h' tk hk => Out.growE R hk (by split <;> simp_all [er])
theorem Ca.tuple {l : Addr} {xs : List Value} (hl : IsL f l xs) (hz : xs.length ≤ 1000000) (h : ∀ D, f D = none → P (.ref D) (fset f D (.tup xs))) : Ca X m f (.type "tuple") [.ref l] P := fun us q s R => by
  obtain ⟨u, rfl, e⟩ := map1 q; cases er_ref e
  obtain ⟨us, g, rfl⟩ := R.isL hl
  rw [List.length_map] at hz
  refine call_tuple_list g (fun h' hk => ?_) (by rw [List.size_toArray, sizeLine_eq]; omega)
  refine Out.newE (c := .tup (us.map er)) R (fun b o g => Heap.get?_push_of_some _ (hk b o g)) ?_ ⟨us, ⟨_, Heap.get?_push_size _ rfl, rfl, _, rfl⟩, rfl⟩ h
  cases q : s.heap.get? h'.objs.size with
  | none => rfl
  | some o => exact absurd (Heap.lt_size (hk _ _ q)) (Nat.lt_irrefl _)
-- methods of lists
theorem meth_append {l : Addr} {xs : List Value} (hl : f l = some (.list xs)) : ∀ pl u s (Q : Value × List Value → Shared → Prop), er u = .ref l → RelF X.G X.L m f s.heap → (∀ fs, fs.map er = [.ref l] → Q (.builtin "list.append", fs) s) →
    wpAny X.M X.A (getMethod u ("append" : PySem.Str) pl) Q (fun _ _ => False) s := fun pl u s Q e R h => by
  cases er_ref e
  obtain ⟨us, n, g, rfl⟩ := R.holds _ _ hl
  exact getMethod_list_append g rfl rfl (h _ rfl)
theorem meth_reverse {l : Addr} {xs : List Value} (hl : f l = some (.list xs)) : ∀ pl u s (Q : Value × List Value → Shared → Prop), er u = .ref l → RelF X.G X.L m f s.heap → (∀ fs, fs.map er = [.ref l] → Q (.builtin "list.reverse", fs) s) →
    wpAny X.M X.A (getMethod u ("reverse" : PySem.Str) pl) Q (fun _ _ => False) s := fun pl u s Q e R h => by
  cases er_ref e
  obtain ⟨us, n, g, rfl⟩ := R.holds _ _ hl
  exact getMethod_list_of PySem.F.slot_list_reverse PySem.F.type_list_reverse ⟨_, g, rfl, n, rfl⟩ ⟨_, g, rfl⟩ (h _ rfl)
/-- a method that an instance's class defines -/
structure MethOk (K : Frag) (C g : Addr) (n : PySem.Str) : Prop where
  get : plainGet K C n = true
  fn : findIn K (.ref C) n = some (some (.ref g))
  ty : isFn K (.ref g) = true
theorem meth_inst {a C d g : Addr} {es : List DictEntry} {n : PySem.Str} (hG : X.G.Ok) (ok : MethOk X.G.K C g n) (ha : f a = some (.inst C d)) (hd : f d = some (.dict es)) (hl : getL n es = some none) :
    ∀ pl u s (Q : Value × List Value → Shared → Prop), er u = .ref a → RelF X.G X.L m f s.heap → (∀ fs, fs.map er = [.ref a] → Q (.ref g, fs) s) → wpAny X.M X.A (getMethod u n pl) Q (fun _ _ => False) s := fun pl u s Q e R h => by
  cases er_ref e
  obtain ⟨us, k, gd, rfl⟩ := R.holds _ _ hd
  rw [getL_er] at hl
  have hl' : getL n us = some none := by
    cases q : getL n us with
    | none => rw [q] at hl; cases hl
    | some x => rw [q] at hl; cases x with | none => rfl | some _ => cases hl
  exact method_fn (od := some (dictOf us k)) (hG.K.keeps R.base) ⟨R.holds a _ ha, rfl, rfl, gd⟩ (plainGet_of ok.get).1 (plainGet_of ok.get).2 ok.fn (beq_iff_eq.mp ok.ty) (by show (lookIn n (dictOf us k)).map _ = _; rw [lookIn_dict, hl']; rfl) (h _ rfl)
end

end Mine

namespace Mine
-- Fw8
set_option maxRecDepth 100000
/-- room for k calls more -/
structure Rm (k : Nat) (A : Around) : Prop where
  h : A.handled = none
  d : A.depth + k ≤ 900
  u : A.units + 4 * k ≤ 9000
theorem Rm.deeper {k : Nat} {A : Around} {env : Env} (r : Rm (k + 1) A) : Rm k (A.deeper env) :=
  ⟨r.h, by have := r.d; show A.depth + 1 + k ≤ 900; omega, by have := r.u; show A.units + 3 + 4 * k ≤ 9000; omega⟩
theorem Rm.under {k : Nat} {A : Around} {C : Addr} {us : List Value} (r : Rm (k + 1) A) : Rm k (A.under (.builtin "type.__call__" ⟨.ref C :: us, []⟩)) :=
  ⟨r.h, by rw [depth_under_make]; have := r.d; omega, by rw [units_under_make]; have := r.u; omega⟩
theorem Rm.room {k : Nat} {A : Around} (r : Rm k A) : A.depth < recursionLimit := by have := r.d; show A.depth < 1000; omega
theorem Rm.line {k : Nat} {A : Around} (r : Rm k A) : A.units + 64 < cLine := by have := r.u; show A.units + 64 < 9900; omega
theorem Rm.mono {k j : Nat} {A : Around} (r : Rm k A) (h : j ≤ k) : Rm j A := ⟨r.h, by have := r.d; omega, by have := r.u; omega⟩
section
variable {X : Cx} {m : Loc} {f : Fh} {P : Value → Fh → Prop}
structure ClsOk (K : Frag) (C fI : Addr) : Prop where
  makes : makesIn K C = true
  init : findIn K (.ref C) "__init__" = some (some (.ref fI))
  fn : isFn K (.ref fI) = true
theorem Ca.cls {k : Nat} {C fI : Addr} {vs : List Value} (hG : X.G.Ok) (hA : Rm (k + 1) X.A) (ok : ClsOk X.G.K C fI)
    (h : ∀ A x d, Rm k A → f x = none → f d = none → x ≠ d → Cd X.G A (fset (fset f d (.dict [])) x (.inst C d)) fI (.ref x :: vs) fun v f' => v = .none ∧ P (.ref x) f') : Ca X m f (.ref C) vs P := fun us q s R => by
  obtain ⟨u, nu, eu⟩ := R.ns
  refine wpAny_call (W.make_K (frE nu) (newsE (ex := [X.L]) (.head _)) (hG.K.keeps R.base) ok.makes ok.init (beq_iff_eq.mp ok.fn) fun x dx h' F' N' hlt hx => ?_)
  have gx : h'.get? x = some (instObj C dx) := (N' _ (.head _)).1
  have gd : h'.get? dx = some (dictOf [] 0) := (N' _ (.tail _ (.head _))).1
  have hxL : x ≠ X.L := (N' _ (.head _)).2.1
  have hdL : dx ≠ X.L := (N' _ (.tail _ (.head _))).2.1
  have old : ∀ b o, b ≠ X.L → s.heap.get? b = some o → h'.get? b = some o := fun b o n g => (N' _ (.tail _ (.tail _ (mem_rest g (by simpa using n))))).1
  have newD : ∀ b, dx ≤ b → b ≠ X.L → s.heap.get? b = none := fun b hb n => by
    cases g : s.heap.get? b with
    | none => rfl
    | some o => exact absurd (hlt _ (mem_rest g (by simpa using n))) (Nat.not_lt.mpr hb)
  have nd := newD dx (Nat.le_refl _) hdL
  have nx := newD x (Nat.le_of_lt hx) hxL
  have hS : Same X.L s.heap h' := ⟨old, fun u' n' => by
    obtain ⟨o, es, ep, a1, a2, a3, a4⟩ := F'.ns
    obtain ⟨o2, es2, ep2, b1, b2, b3, b4⟩ := nu
    obtain ⟨o3, es3, ep3, c1, c2, c3, c4⟩ := n'
    rw [b1] at c1; cases c1
    rw [b2] at c2; cases c2
    exact ⟨o, es, ep, a1, a2, a3, fun y => by rw [a4, ← b4, c4]⟩⟩
  have R₁ := R.same hS
  have bd := R.toRelH.nob nd
  have bx := R.toRelH.nob nx
  have R₂ : RelH X.G (fset (fset f dx (.dict [])) x (.inst C dx)) h' := (R₁.toRelH.show (c := .dict []) bd ⟨[], 0, gd, rfl⟩).show (c := .inst C dx) bx gx
  have hxd : x ≠ dx := Nat.ne_of_gt hx
  refine codeAny_mono (h _ x dx (Rm.under (us := us) hA) (R.toRelH.fresh nx) (R.toRelH.fresh nd) hxd (.ref x :: us) (by rw [List.map_cons, q]; rfl) { s with heap := h' } R₂) fun r s' o => ?_
  obtain ⟨sm, v, f', rfl, R', kp, e, p⟩ := o
  obtain ⟨oL, gL⟩ := R₁.lsome
  have fL : fset (fset f dx (.dict [])) x (.inst C dx) X.L = none := by rw [fset_ne hxL.symm, fset_ne hdL.symm]; exact R.loc
  have RF : RelF X.G X.L m (fset (fset f dx (.dict [])) x (.inst C dx)) h' := ⟨R₂, R₁.ns, fL, R.locb⟩
  refine ⟨er_none e, sm, m, f', RF.back R' kp, fun a o n e g => ?_, rfl, p⟩
  refine kp a o ?_ (old a o n g)
  rw [fset_ne (by rintro rfl; rw [nx] at g; cases g), fset_ne (by rintro rfl; rw [nd] at g; cases g)]; exact e
end
section
variable {G : Gl} {A : Around} {f : Fh} {P : Value → Fh → Prop} {k : Nat} {name qual : PySem.Str} {params : Arguments} {body : List Stmt} {scope : Scope} {dV kV doc pm cdv ct oc : Value} {an od : Option Addr} {osl : Array (Option Value)} {g : Addr} {a b c d e : Value} {n₁ n₂ n₃ n₄ n₅ : PySem.Str}
theorem Cd.enter1 (hG : G.Ok) (hA : Rm (k + 1) A) (ho : G.K.lookup g = some ⟨oc, od, .func (fnOf name qual params body scope dV kV doc pm an cdv ct), osl⟩) (hcd : codeIn G.K cdv qual = true)
    (h : ∀ L, Rm k (A.deeper (envOf qual scope L g cdv)) → Ss ⟨G, A.deeper (envOf qual scope L g cdv), envOf qual scope L g cdv⟩ (fun y => [(n₁, a)].lookup y) f body fun fl _ f' => P (retOf fl) f')
    (hb : ∀ u s, BindsTo s (fnOf name qual params body scope dV kV doc pm an cdv ct) ⟨[u], []⟩ [(n₁, u)] := by intro _ _; exact BindsTo.of_eq rfl) (hl : (([(n₁, a)] : List (PySem.Str × Value)).all fun x => decide (scope.names.lookup x.1 = some .local)) = true := by rfl)
    (hco : scope.isCoroutine = false := by rfl) (hgen : scope.isGenerator = false := by rfl) (hk : scope.kind = .function := by rfl) (hcell : ∀ x ∈ scope.names, x.2 ≠ .cell := by decide) : Cd G A f g [a] P :=
  Cd.enter hG ho hcd hA.room (fun us q => by obtain ⟨u, rfl, rfl⟩ := map1 q; exact ⟨_, fun s _ => hb u s, rfl⟩) hl (fun L => h L hA.deeper) hco hgen hk hcell
theorem Cd.enter2 (hG : G.Ok) (hA : Rm (k + 1) A) (ho : G.K.lookup g = some ⟨oc, od, .func (fnOf name qual params body scope dV kV doc pm an cdv ct), osl⟩) (hcd : codeIn G.K cdv qual = true)
    (h : ∀ L, Rm k (A.deeper (envOf qual scope L g cdv)) → Ss ⟨G, A.deeper (envOf qual scope L g cdv), envOf qual scope L g cdv⟩ (fun y => [(n₂, b), (n₁, a)].lookup y) f body fun fl _ f' => P (retOf fl) f')
    (hb : ∀ u v s, BindsTo s (fnOf name qual params body scope dV kV doc pm an cdv ct) ⟨[u, v], []⟩ [(n₁, u), (n₂, v)] := by intro _ _ _; exact BindsTo.of_eq rfl) (hl : (([(n₁, a), (n₂, b)] : List (PySem.Str × Value)).all fun x => decide (scope.names.lookup x.1 = some .local)) = true := by rfl)
    (hco : scope.isCoroutine = false := by rfl) (hgen : scope.isGenerator = false := by rfl) (hk : scope.kind = .function := by rfl) (hcell : ∀ x ∈ scope.names, x.2 ≠ .cell := by decide) : Cd G A f g [a, b] P :=
  Cd.enter hG ho hcd hA.room (fun us q => by obtain ⟨u, v, rfl, rfl, rfl⟩ := map2 q; exact ⟨_, fun s _ => hb u v s, rfl⟩) hl (fun L => h L hA.deeper) hco hgen hk hcell
theorem Cd.enter3 (hG : G.Ok) (hA : Rm (k + 1) A) (ho : G.K.lookup g = some ⟨oc, od, .func (fnOf name qual params body scope dV kV doc pm an cdv ct), osl⟩) (hcd : codeIn G.K cdv qual = true)
    (h : ∀ L, Rm k (A.deeper (envOf qual scope L g cdv)) → Ss ⟨G, A.deeper (envOf qual scope L g cdv), envOf qual scope L g cdv⟩ (fun y => [(n₃, c), (n₂, b), (n₁, a)].lookup y) f body fun fl _ f' => P (retOf fl) f')
    (hb : ∀ u v x s, BindsTo s (fnOf name qual params body scope dV kV doc pm an cdv ct) ⟨[u, v, x], []⟩ [(n₁, u), (n₂, v), (n₃, x)] := by intro _ _ _ _; exact BindsTo.of_eq rfl) (hl : (([(n₁, a), (n₂, b), (n₃, c)] : List (PySem.Str × Value)).all fun x => decide (scope.names.lookup x.1 = some .local)) = true := by rfl)
    (hco : scope.isCoroutine = false := by rfl) (hgen : scope.isGenerator = false := by rfl) (hk : scope.kind = .function := by rfl) (hcell : ∀ x ∈ scope.names, x.2 ≠ .cell := by decide) : Cd G A f g [a, b, c] P :=
  Cd.enter hG ho hcd hA.room (fun us q => by obtain ⟨u, v, x, rfl, rfl, rfl, rfl⟩ := map3 q; exact ⟨_, fun s _ => hb u v x s, rfl⟩) hl (fun L => h L hA.deeper) hco hgen hk hcell
theorem Cd.enter4 (hG : G.Ok) (hA : Rm (k + 1) A) (ho : G.K.lookup g = some ⟨oc, od, .func (fnOf name qual params body scope dV kV doc pm an cdv ct), osl⟩) (hcd : codeIn G.K cdv qual = true)
    (h : ∀ L, Rm k (A.deeper (envOf qual scope L g cdv)) → Ss ⟨G, A.deeper (envOf qual scope L g cdv), envOf qual scope L g cdv⟩ (fun y => [(n₄, d), (n₃, c), (n₂, b), (n₁, a)].lookup y) f body fun fl _ f' => P (retOf fl) f')
    (hb : ∀ u v x y s, BindsTo s (fnOf name qual params body scope dV kV doc pm an cdv ct) ⟨[u, v, x, y], []⟩ [(n₁, u), (n₂, v), (n₃, x), (n₄, y)] := by intro _ _ _ _ _; exact BindsTo.of_eq rfl) (hl : (([(n₁, a), (n₂, b), (n₃, c), (n₄, d)] : List (PySem.Str × Value)).all fun x => decide (scope.names.lookup x.1 = some .local)) = true := by rfl)
    (hco : scope.isCoroutine = false := by rfl) (hgen : scope.isGenerator = false := by rfl) (hk : scope.kind = .function := by rfl) (hcell : ∀ x ∈ scope.names, x.2 ≠ .cell := by decide) : Cd G A f g [a, b, c, d] P :=
  Cd.enter hG ho hcd hA.room (fun us q => by obtain ⟨u, us', rfl, rfl, q'⟩ := mapc q; obtain ⟨v, x, y, rfl, rfl, rfl, rfl⟩ := map3 q'; exact ⟨_, fun s _ => hb u v x y s, rfl⟩) hl (fun L => h L hA.deeper) hco hgen hk hcell
theorem Cd.enter5 (hG : G.Ok) (hA : Rm (k + 1) A) (ho : G.K.lookup g = some ⟨oc, od, .func (fnOf name qual params body scope dV kV doc pm an cdv ct), osl⟩) (hcd : codeIn G.K cdv qual = true)
    (h : ∀ L, Rm k (A.deeper (envOf qual scope L g cdv)) → Ss ⟨G, A.deeper (envOf qual scope L g cdv), envOf qual scope L g cdv⟩ (fun y => [(n₅, e), (n₄, d), (n₃, c), (n₂, b), (n₁, a)].lookup y) f body fun fl _ f' => P (retOf fl) f')
    (hb : ∀ u v x y z s, BindsTo s (fnOf name qual params body scope dV kV doc pm an cdv ct) ⟨[u, v, x, y, z], []⟩ [(n₁, u), (n₂, v), (n₃, x), (n₄, y), (n₅, z)] := by intro _ _ _ _ _ _; exact BindsTo.of_eq rfl) (hl : (([(n₁, a), (n₂, b), (n₃, c), (n₄, d), (n₅, e)] : List (PySem.Str × Value)).all fun x => decide (scope.names.lookup x.1 = some .local)) = true := by rfl)
    (hco : scope.isCoroutine = false := by rfl) (hgen : scope.isGenerator = false := by rfl) (hk : scope.kind = .function := by rfl) (hcell : ∀ x ∈ scope.names, x.2 ≠ .cell := by decide) : Cd G A f g [a, b, c, d, e] P :=
  Cd.enter hG ho hcd hA.room (fun us q => by obtain ⟨u, us', rfl, rfl, q'⟩ := mapc q; obtain ⟨t, us', rfl, rfl, q''⟩ := mapc q'; obtain ⟨v, x, y, rfl, rfl, rfl, rfl⟩ := map3 q''; exact ⟨_, fun s _ => hb u t v x y s, rfl⟩) hl (fun L => h L hA.deeper) hco hgen hk hcell
end

end Mine

namespace Mine
-- Fw9
set_option maxRecDepth 100000
section
variable {X : Cx} {m : Loc} {f : Fh} {P : Value → Fh → Prop}
structure BiOk (K : Frag) (x : PySem.Str) (g : Value) : Prop where
  no : nsIn K mainGlobals x = some none
  yes : bootBuiltins x = some g
structure DefOk (K : Frag) (x : PySem.Str) (g : Addr) : Prop where
  at_ : nsIn K mainGlobals x = some (some (.ref g))
  keep : keepIn K (.ref g) = true
/-- a call of a built-in type -/
theorem Ex.callT {x : PySem.Str} {xp pos : Pos} {e : Expr} {es : List Expr} {g : String} (hG : X.G.Ok) (ok : BiOk X.G.K x (.type g)) (h : Ar X m f (e :: es) fun vs f₁ => Ca X m f₁ (.type g) vs P)
    (hk : X.env.scope.kind = .function := by rfl) (hl : X.env.kindOf x = some .globalImplicit := by rfl) (hg : X.env.globals = mainGlobals := by rfl) (hb : X.env.builtins = builtinsNs := by rfl)
    (hd : (x == ("__debug__" : PySem.Str)) = false := by decide) (hm : x ≠ "__name__" := by decide)
    (he : starEach (e :: es) X.env = (false, eval e X.env) :: starEach es X.env := by rfl) (hp : (backTo pos (starEach es X.env)).any (·.1) = false := by rfl) : Ex X m f (.Call (.Name x xp) (e :: es) [] pos) P :=
  Ex.call hG (fun _ _ p => Ex.builtin hG ok.no ok.yes p hk hl hg hb hd hm) (fun _ q => er_type q) keep_type h he hp
/-- a call of a built-in function -/
theorem Ex.callF {x : PySem.Str} {xp pos : Pos} {e : Expr} {es : List Expr} {g : String} (hG : X.G.Ok) (ok : BiOk X.G.K x (.builtin g)) (h : Ar X m f (e :: es) fun vs f₁ => Ca X m f₁ (.builtin g) vs P)
    (hk : X.env.scope.kind = .function := by rfl) (hl : X.env.kindOf x = some .globalImplicit := by rfl) (hg : X.env.globals = mainGlobals := by rfl) (hb : X.env.builtins = builtinsNs := by rfl)
    (hd : (x == ("__debug__" : PySem.Str)) = false := by decide) (hm : x ≠ "__name__" := by decide)
    (he : starEach (e :: es) X.env = (false, eval e X.env) :: starEach es X.env := by rfl) (hp : (backTo pos (starEach es X.env)).any (·.1) = false := by rfl) : Ex X m f (.Call (.Name x xp) (e :: es) [] pos) P :=
  Ex.call hG (fun _ _ p => Ex.builtin hG ok.no ok.yes p hk hl hg hb hd hm) (fun _ q => er_builtin q) keep_builtin h he hp
/-- a call of a def or a class of the text -/
theorem Ex.callD {x : PySem.Str} {xp pos : Pos} {e : Expr} {es : List Expr} {g : Addr} (hG : X.G.Ok) (ok : DefOk X.G.K x g) (h : Ar X m f (e :: es) fun vs f₁ => Ca X m f₁ (.ref g) vs P)
    (hk : X.env.scope.kind = .function := by rfl) (hl : X.env.kindOf x = some .globalImplicit := by rfl) (hg : X.env.globals = mainGlobals := by rfl)
    (hd : (x == ("__debug__" : PySem.Str)) = false := by decide)
    (he : starEach (e :: es) X.env = (false, eval e X.env) :: starEach es X.env := by rfl) (hp : (backTo pos (starEach es X.env)).any (·.1) = false := by rfl) : Ex X m f (.Call (.Name x xp) (e :: es) [] pos) P :=
  Ex.call hG (fun _ _ p => Ex.global hG ok.at_ p hk hl hg hd) (fun _ q => er_ref q) (keep_K ok.keep) h he hp
end

end Mine

namespace Mine
-- Fw10
set_option maxRecDepth 100000
def KeysAt (f : Fh) (xs : List (List Int × Addr × Value)) : Prop := ∀ x ∈ xs, f x.2.1 = some (.tup (x.1.map iv))
theorem itemsAre {prog : Program} {w : World} : ∀ {us : List Value} {ks : List Int}, us.map er = ks.map iv → PySem.ItemsAre (intKind prog w) ks us
  | [], [], _ => .nil
  | [], _ :: _, e => by cases e
  | _ :: _, [], e => by cases e
  | u :: us, k :: ks, e => by
    simp only [List.map_cons, List.cons.injEq] at e
    obtain ⟨t, rfl⟩ := er_int e.1
    exact .cons (by show (k == k) = true; exact beq_self_eq_true k) (itemsAre e.2)
theorem tupKey {prog : Program} {w : World} {hh : Heap} {T : Addr} {ks : List Int} (h : Holds hh T (.tup (ks.map iv))) : IsTupleKey (intKind prog w) hh ks T := by
  obtain ⟨us, ⟨o, g, hc, n, hd⟩, e⟩ := h
  exact ⟨o, us.toArray, n, g, hc, hd, itemsAre (by simpa using e)⟩
theorem atKey_er (us : List (List Int × Addr × Value)) (k : List Int) : atKey (us.map fun x => (x.1, x.2.1, er x.2.2)) k = (atKey us k).map fun p => (p.1, er p.2) := by
  unfold atKey
  rw [List.find?_map]
  simp only [Function.comp_def, Option.map_map]
theorem storedH_er (us : List (List Int × Addr × Value)) (k : List Int) (a : Addr) (v : Value) : (storedH us k a v).map (fun x => (x.1, x.2.1, er x.2.2)) = storedH (us.map fun x => (x.1, x.2.1, er x.2.2)) k a (er v) := by
  unfold storedH
  rw [atKey_er, Option.isSome_map]
  split
  · rw [List.map_map, List.map_map]
    refine List.map_congr_left fun x _ => ?_
    simp only [Function.comp_def, putAt]
    split <;> rfl
  · simp
theorem valueAt_er (us : List (Int × Value)) (k : Int) : valueAt (us.map fun x => (x.1, er x.2)) k = (valueAt us k).map er := by
  unfold valueAt
  rw [List.find?_map]
  simp only [Function.comp_def, Option.map_map]
theorem stored_er (us : List (Int × Value)) (k : Int) (v : Value) : (stored us k v).map (fun x => (x.1, er x.2)) = stored (us.map fun x => (x.1, er x.2)) k (er v) := by
  unfold stored
  rw [List.any_map]
  simp only [Function.comp_def]
  split
  · rw [List.map_map, List.map_map]
    refine List.map_congr_left fun x _ => ?_
    simp only [Function.comp_def]
    split <;> rfl
  · simp
theorem pairs_ik {p p' : Program} {w w' : World} {es : List DictEntry} {us : List (Int × Value)} (h : Pairs (intKind p w) es us) : Pairs (intKind p' w') es us := by
  induction h with
  | nil => exact .nil
  | cons a b _ ih => exact .cons a b ih
theorem dictOf_ik {p p' : Program} {w w' : World} {hh : Heap} {a : Addr} {us : List (Int × Value)} (h : hh.DictOf (intKind p w) a us) : hh.DictOf (intKind p' w') a us := by
  obtain ⟨o, es, ep, g, hc, hd, hk, hp, hn⟩ := h
  exact ⟨o, es, ep, g, hc, hd, hk, pairs_ik hp, hn⟩
section
variable {G : Gl} {f : Fh} {hh : Heap}
theorem RelH.pdict {prog : Program} {w : World} {d : Addr} {xs : List (List Int × Addr × Value)} (R : RelH G f hh) (hd : f d = some (.pdict xs)) (hk : KeysAt f xs) :
    ∃ us, hh.DictOfH (tupleKind (intKind prog w)) d us ∧ us.map (fun x => (x.1, x.2.1, er x.2.2)) = xs := by
  obtain ⟨us, o, es, ep, g, hc, hdt, he, hn, rfl⟩ := R.holds _ _ hd
  refine ⟨us, ⟨o, es, ep, g, hc, hdt, he, fun x hx => ?_, hn⟩, rfl⟩
  exact tupKey (R.holds _ _ (hk (x.1, x.2.1, er x.2.2) (List.mem_map.mpr ⟨x, hx, rfl⟩)))
theorem holds_pdict {prog : Program} {w : World} {d : Addr} {us : List (List Int × Addr × Value)} (h : hh.DictOfH (tupleKind (intKind prog w)) d us) : Holds hh d (.pdict (us.map fun x => (x.1, x.2.1, er x.2.2))) := by
  obtain ⟨o, es, ep, g, hc, hdt, he, _, hn⟩ := h
  exact ⟨us, o, es, ep, g, hc, hdt, he, hn, rfl⟩
end
section
variable {X : Cx} {m : Loc} {f : Fh} {P : Value → Fh → Prop}
theorem Ex.dictI {pos : Pos} (h : ∀ a, f a = none → P (.ref a) (fset f a (.idict []))) : Ex X m f (.Dict [] [] pos) P := fun s R =>
  wpAny_Dict_empty (Out.newE (c := .idict []) R (fun _ _ => Heap.get?_push_of_some _) nosize ⟨[], Heap.DictOf.new s.heap, rfl⟩ h)
theorem Ex.dictP {pos : Pos} (h : ∀ a, f a = none → P (.ref a) (fset f a (.pdict []))) : Ex X m f (.Dict [] [] pos) P := fun s R =>
  wpAny_Dict_empty (Out.newE (c := .pdict []) R (fun _ _ => Heap.get?_push_of_some _) nosize (holds_pdict (prog := X.G.prog) (w := X.G.w) (us := []) (Heap.DictOfH.new s.heap)) h)
theorem St1.itemP {o i e : Expr} {ip pos : Pos} {P : Flow → Loc → Fh → Prop} (hA : X.A.units + 8 < cLine)
    (h : Ex X m f e fun v f₁ => Ex X m f₁ o fun w f₂ => Ex X m f₂ i fun j f₃ => ∃ d xs T ks, w = .ref d ∧ j = .ref T ∧ f₃ d = some (.pdict xs) ∧ KeysAt f₃ xs ∧ f₃ T = some (.tup (ks.map iv)) ∧ xs.length ≤ 100 ∧
      P .next m (fset f₃ d (.pdict (storedH xs ks T v))))
    (hs : swapsWith e (some (.Subscript o i ip)) pos.line X.env = pure false := by rfl) : St1 X m f (.Assign [.Subscript o i ip] e pos) P := fun _ R =>
  wpAny_Assign_Subscript (h.use R fun v _ _ sm k R h => h.use R fun w _ _ sm' k' R h => h.use R fun j s₃ _ sm₃ k₃ R ⟨d, xs, T, ks, e, e', hd, hk, hT, hz, p⟩ => by
    cases er_ref e
    cases er_ref e'
    obtain ⟨us, hm, rfl⟩ := R.toRelH.pdict (prog := X.G.prog) (w := X.G.w) hd hk
    rw [List.length_map] at hz
    refine wpAny_setItem_heap (knd := tupleKind (intKind X.G.prog X.G.w)) (by show X.A.units + 1 < cLine; omega) (tupKey (R.holds _ _ hT)) hm (fun h' hm' hs' => ?_) (by rw [sizeLine_eq]; omega)
    refine Out.from ((sm.trans sm').trans sm₃) ((k.trans k').trans k₃) ⟨Sm.rfl, m, _, R.upd (c' := .pdict (storedH (us.map fun x : List Int × Addr × Value => (x.1, x.2.1, er x.2.2)) ks T (er v))) hd hs'.extBut ?_, Kept.upd hd hs'.extBut, p⟩
    rw [← storedH_er]; exact holds_pdict hm') hs
theorem meth_getP {d : Addr} {xs : List (List Int × Addr × Value)} (hd : f d = some (.pdict xs)) : ∀ pl u s (Q : Value × List Value → Shared → Prop), er u = .ref d → RelF X.G X.L m f s.heap → (∀ fs, fs.map er = [.ref d] → Q (.builtin "dict.get", fs) s) →
    wpAny X.M X.A (getMethod u ("get" : PySem.Str) pl) Q (fun _ _ => False) s := fun pl u s Q e R h => by
  cases er_ref e
  obtain ⟨us, o, es, ep, g, hc, hdt, he, hn, _⟩ := R.holds _ _ hd
  exact getMethod_builtin (T := "dict") ⟨o, g, hc.1⟩ PySem.F.plainAttrs_dict PySem.F.slot_dict_get PySem.F.type_dict_get (fun b e => by cases e; exact ⟨o, g, hc.2.1⟩) (h _ rfl)
theorem meth_getI {d : Addr} {kvs : List (Int × Value)} (hd : f d = some (.idict kvs)) : ∀ pl u s (Q : Value × List Value → Shared → Prop), er u = .ref d → RelF X.G X.L m f s.heap → (∀ fs, fs.map er = [.ref d] → Q (.builtin "dict.get", fs) s) →
    wpAny X.M X.A (getMethod u ("get" : PySem.Str) pl) Q (fun _ _ => False) s := fun pl u s Q e R h => by
  cases er_ref e
  obtain ⟨us, ⟨o, es, ep, g, hc, _⟩, _⟩ := R.holds _ _ hd
  exact getMethod_builtin (T := "dict") ⟨o, g, hc.1⟩ PySem.F.plainAttrs_dict PySem.F.slot_dict_get PySem.F.type_dict_get (fun b e => by cases e; exact ⟨o, g, hc.2.1⟩) (h _ rfl)
theorem Ca.getP {d T : Addr} {xs : List (List Int × Addr × Value)} {ks : List Int} {dv : Value} (hG : X.G.Ok) (hA : X.A.units + 8 < cLine) (hd : f d = some (.pdict xs)) (hk : KeysAt f xs) (hT : f T = some (.tup (ks.map iv))) (h : P (((atKey xs ks).map (·.2)).getD dv) f) :
    Ca X m f (.builtin "dict.get") [.ref d, .ref T, dv] P := fun us q s R => by
  obtain ⟨u, v, x, rfl, e, e', rfl⟩ := map3 q; cases er_ref e; cases er_ref e'
  obtain ⟨us, hm, rfl⟩ := R.toRelH.pdict (prog := X.G.prog) (w := X.G.w) hd hk
  refine call_meetsIn PySem.F.slot_dict_get hm.typeIs PySem.F.entry_dict_get (PySem.F.args_dict_get_3 _ _ _) (meetsH_dict_get_default (tupleKind (intKind X.G.prog X.G.w)) d T (R.toRelH.notSys hG hd) x) ⟨by show X.A.units + 1 < cLine; omega, ks, us, tupKey (R.holds _ _ hT), hm, ?_⟩
  refine Out.hereE R ?_
  rw [atKey_er] at h
  cases q : atKey us ks with
  | none => rw [q] at h; exact h
  | some p => rw [q] at h; exact h
theorem Ca.getI {d : Addr} {kvs : List (Int × Value)} {k : Int} {dv : Value} (hG : X.G.Ok) (hd : f d = some (.idict kvs)) (h : P ((valueAt kvs k).getD dv) f) : Ca X m f (.builtin "dict.get") [.ref d, iv k, dv] P := fun us q s R => by
  obtain ⟨u, v, x, rfl, e, e', rfl⟩ := map3 q; cases er_ref e; obtain ⟨t, rfl⟩ := er_int e'
  obtain ⟨us, hm, rfl⟩ := R.holds _ _ hd
  have hm' : s.heap.DictOf (intKind X.G.prog X.G.w) d us := dictOf_ik hm
  refine call_meetsIn PySem.F.slot_dict_get hm'.typeIs PySem.F.entry_dict_get (PySem.F.args_dict_get_3 _ _ _) (meets_dict_get_default (intKind X.G.prog X.G.w) (k := k) d (by show (k == k) = true; exact beq_self_eq_true k) (R.toRelH.notSys hG hd) x) ⟨_, hm'.mapOf, ?_⟩
  refine Out.hereE R ?_
  rw [valueAt_er] at h
  cases q : valueAt us k with
  | none => rw [q] at h; exact h
  | some p => rw [q] at h; exact h
end

end Mine

namespace Mine
-- Fw11
set_option maxRecDepth 100000
theorem one_of_nodup {α : Type} (H : α → Int) : ∀ us : List α, (us.map H).Nodup → ∀ c, (us.filter fun y => H y == c).length ≤ 1
  | [], _, _ => Nat.zero_le _
  | u :: us, h, c => by
    rw [List.map_cons, List.nodup_cons] at h
    rw [List.filter_cons]
    split
    · rename_i e
      have : us.filter (fun y => H y == c) = [] := List.filter_eq_nil_iff.mpr fun y hy q => h.1 (by
        rw [beq_iff_eq] at e q
        rw [e, ← q]; exact List.mem_map.mpr ⟨y, hy, rfl⟩)
      rw [this]; exact Nat.le_refl _
    · exact one_of_nodup H us h.2 c
abbrev erx (x : List Int × Addr × Value) : List Int × Addr × Value := (x.1, x.2.1, er x.2.2)
section
variable {prog : Program} {w : World} {A : Around} {E : Value → Shared → Prop} {s : Shared}
theorem sameP {nm : String} {a b : Addr} {us us' : List (List Int × Addr × Value)} {Q : Bool → Shared → Prop} (ha : (a == sysModules) = false) (hb : (b == sysModules) = false)
    (da : s.heap.DictOfH (tupleKind (intKind prog w)) a us) (db : s.heap.DictOfH (tupleKind (intKind prog w)) b us') (heq : us.map erx = us'.map erx) (hi : ∀ x ∈ us, ∃ i t, x.2.2 = .int i t) (hu : A.units < cLine) (h : Q true s) :
    wpAny (model prog w) A (Builtin.Dict.samePairs nm a b) Q E s := by
  obtain ⟨oa, es, ep, hoa, _, hda, hea, hia, hna⟩ := da
  obtain ⟨ob, es', ep', hob, _, hdb, heb, hib, hnb⟩ := db
  have hla : es.size = us.length := size_of_entries hea
  have hlb : es'.size = us'.length := size_of_entries heb
  have hlen : us.length = us'.length := by have := congrArg List.length heq; simpa using this
  unfold Builtin.Dict.samePairs Builtin.Dict.showsAll
  rw [if_neg (show ¬ (a == sysModules) = true by rw [ha]; exact Bool.false_ne_true), if_neg (show ¬ (b == sysModules) = true by rw [hb]; exact Bool.false_ne_true)]
  refine wpAny_bind (wpAny_pure (wpAny_bind (wpAny_pure ?_)))
  refine wpAny_bind (wpAny_dictEntries hoa hda ?_)
  dsimp only
  refine wpAny_bind (wpAny_dictEntries hob hdb ?_)
  rw [if_neg (by rw [hla, hlb, hlen]; simp)]
  refine wpAny_bind (wpAny_dictEpoch hoa hda ?_)
  refine wpAny_bind ?_
  rw [Std.Legacy.Range.forIn_eq_forIn_range']
  simp only [Std.Legacy.Range.size, Nat.sub_zero, Nat.add_sub_cancel, Nat.div_one]
  refine wpAny_forIn_list _
    (fun rest q s' => s' = s ∧ q = (none, ()) ∧ ∃ i, rest = List.range' i (es.size - i) ∧ i ≤ es.size)
    _ ?_ ?_ _ _ ⟨rfl, rfl, 0, by simp, Nat.zero_le _⟩
  · rintro x rest q s' ⟨rfl, rfl, i, hr, hi'⟩
    have hlt : i < es.size := by
      rcases Nat.lt_or_ge i es.size with h | h
      · exact h
      · rw [Nat.sub_eq_zero_of_le h] at hr; simp at hr
    obtain ⟨rfl, hrest⟩ : x = i ∧ rest = List.range' (i + 1) (es.size - (i + 1)) := by
      have e : es.size - i = (es.size - (i + 1)) + 1 := by omega
      rw [e, List.range'_succ] at hr
      injection hr with h1 h2
      exact ⟨h1, h2⟩
    refine wpAny_bind (wpAny_dictEntries hoa hda ?_)
    have hxu : x < us.length := by rw [← hla]; exact hlt
    have hxu' : x < us'.length := by rw [← hlen]; exact hxu
    have e1 : es[x]? = some (entryOfKey (tupleKind (intKind prog w)) us[x]) := by rw [entry_at hea x, List.getElem?_eq_getElem hxu]; rfl
    have e2 : es'[x]? = some (entryOfKey (tupleKind (intKind prog w)) us'[x]) := by rw [entry_at heb x, List.getElem?_eq_getElem hxu']; rfl
    have e3 : erx us[x] = erx us'[x] := by
      have : (us.map erx)[x]? = (us'.map erx)[x]? := by rw [heq]
      rw [List.getElem?_map, List.getElem?_map, List.getElem?_eq_getElem hxu, List.getElem?_eq_getElem hxu'] at this
      exact Option.some.inj this
    have hmem : us[x] ∈ us := List.getElem_mem hxu
    have hin := hia _ hmem
    obtain ⟨j, t, hv⟩ := hi _ hmem
    rw [e1]
    generalize hux : us[x] = ux at *
    generalize hux' : us'[x] = ux' at *
    have hget' : us'[x]? = some (ux.1, ux'.2) := by
      rw [List.getElem?_eq_getElem hxu', hux']
      have := congrArg (·.1) e3
      dsimp only at this
      rw [this]
    have hv' : ∃ t', ux'.2.2 = .int j t' := by
      have := congrArg (·.2.2) e3
      dsimp only at this
      rw [hv] at this
      exact er_int this.symm
    obtain ⟨t', hv'⟩ := hv'
    show wpAny _ _ (holding [Value.ref ux.2.1, ux.2.2] _ >>= _) _ _ _
    refine wpAny_bind (wpAny_holding (wpAny_bind ?_))
    refine wpAny_dictFind_heap (knd := tupleKind (intKind prog w)) (a := ux.2.1) (k := ux.1) hu hin hob hdb heb hib hnb (fun hno => absurd hget' (hno x ux'.2)) fun j' p hj => ?_
    obtain rfl : j' = x := (idxH_unique hnb hj hget')
    refine wpAny_bind (wpAny_dictEntries hob hdb ?_)
    rw [e2]
    refine wpAny_holding ?_
    show wpAny _ _ (eqBool ux.2.2 ux'.2.2) _ _ _
    rw [hv, hv']
    refine wpAny_eqBool_int ?_
    rw [if_neg (by simp)]
    refine wpAny_bind (wpAny_dictEpoch hoa hda ?_)
    rw [if_neg (by simp)]
    exact wpAny_pure ⟨rfl, rfl, j' + 1, hrest, hlt⟩
  · rintro q s' ⟨rfl, rfl, i, hr, hi'⟩
    exact wpAny_pure h
theorem neP {a b : Addr} {us us' : List (List Int × Addr × Value)} {Q : Value → Shared → Prop} (ha : (a == sysModules) = false) (hb : (b == sysModules) = false)
    (da : s.heap.DictOfH (tupleKind (intKind prog w)) a us) (db : s.heap.DictOfH (tupleKind (intKind prog w)) b us') (heq : us.map erx = us'.map erx) (hi : ∀ x ∈ us, ∃ i t, x.2.2 = .int i t) (hu : A.units + 8 < cLine)
    (h : Q (.bool false) s) : wpAny (model prog w) A (compareOp .NotEq (.ref a) (.ref b)) Q E s := by
  refine wpAny_richCompare_same_room (op := .NotEq) da.typeIs db.typeIs PySem.F.slot_dict_ne (wpAny_call_entry PySem.F.slot_dict_ne da.typeIs PySem.F.entry_dict_ne ?_ (PySem.F.args_dict_ne_2 _ _)) (by omega)
  show wpAny _ _ (Builtin.Dict.dictSlotArgs "__ne__" ⟨[.ref a, .ref b], []⟩ >>= _) _ _ s
  refine wpAny_bind ?_
  unfold Builtin.Dict.dictSlotArgs
  refine wpAny_bind (wpAny_notOrdered_dict da.typeIs ?_)
  show wpAny _ _ (pure (Value.ref a, Value.ref b)) _ _ s
  refine wpAny_pure ?_
  refine wpAny_bind (wpAny_isInstance (T := "dict") db.typeIs PySem.F.sub_dict_dict ?_)
  simp only [Bool.not_true, Bool.false_eq_true, if_false]
  refine wpAny_bind (wpAny_pure (wpAny_bind (wpAny_pure ?_)))
  refine wpAny_bind (sameP ha hb da db heq hi (by show A.units + 1 < cLine; omega) ?_)
  refine wpAny_pure ⟨_, rfl, ?_, ?_⟩
  · exact fun x => nomatch x
  · simpa using h
theorem quietT {T : Addr} {ks : List Int} {Q : Bool → Shared → Prop} (hk : IsTupleKey (intKind prog w) s.heap ks T) (h : Q false s) : wpAny (model prog w) A (Builtin.Dict.quietEq (.ref T)) Q E s := by
  unfold Builtin.Dict.quietEq
  refine wpAny_bind (wpAny_specialOf hk.typeIs PySem.F.slot_tuple_eq.lookup (wpAny_pure ?_))
  exact h
theorem copyE {id : String} {o : Addr} {us : List (List Int × Addr × Value)} {Q : Array DictEntry → Shared → Prop} {oo : Obj} {es : Array DictEntry} {ep : Nat} (ho : s.heap.get? o = some oo) (hd : oo.data = .dict es ep)
    (he : es.toList = us.map (entryOfKey (tupleKind (intKind prog w)))) (hi : ∀ x ∈ us, IsTupleKey (intKind prog w) s.heap x.1 x.2.1) (hn : (us.map fun x => tupleKeyHash (intKind prog w) x.1).Nodup) (h : Q es s) :
    wpAny (model prog w) A (Builtin.Dict.entriesForEmpty id o) Q E s := by
  unfold Builtin.Dict.entriesForEmpty
  refine wpAny_bind (wpAny_dictEntries ho hd ?_)
  refine wpAny_bind ?_
  rw [← Array.forIn_toList]
  refine wpAny_forIn_list _ (fun rest _ s' => s' = s ∧ ∀ e ∈ rest, e ∈ es.toList) _ ?_ ?_ _ _ ⟨rfl, fun _ h => h⟩
  · rintro e rest q s' ⟨rfl, hm⟩
    have me := hm e (.head _)
    rw [he] at me
    obtain ⟨x, hx, rfl⟩ := List.mem_map.mp me
    refine wpAny_bind (quietT (hi x hx) ?_)
    have hs : (es.filter fun e => e.hash == (entryOfKey (tupleKind (intKind prog w)) x).hash).size ≤ 1 := by
      have e1 : (es.filter fun e => e.hash == (entryOfKey (tupleKind (intKind prog w)) x).hash).size = (es.toList.filter fun e => e.hash == (entryOfKey (tupleKind (intKind prog w)) x).hash).length := by
        rw [← Array.toList_filter, Array.length_toList]
      rw [e1, he, List.filter_map, List.length_map]
      exact one_of_nodup _ us hn _
    show wpAny _ _ (if (!false) = true then _ else _) _ _ _
    rw [if_pos (by decide), if_neg (by omega)]
    exact wpAny_pure ⟨rfl, fun e h => hm e (.tail _ h)⟩
  · rintro q s' ⟨rfl, _⟩
    exact wpAny_pure h
theorem mergeP {nm : String} {d o : Addr} {us : List (List Int × Addr × Value)} {Q : Unit → Shared → Prop} (hdo : d ≠ o) (hoS : (o == sysModules) = false)
    (hd : s.heap.DictOfH (tupleKind (intKind prog w)) d []) (ho : s.heap.DictOfH (tupleKind (intKind prog w)) o us) (hn : (us.map fun x => tupleKeyHash (intKind prog w) x.1).Nodup) (hz : us.length ≤ 100)
    (hQ : ∀ h', h'.DictOfH (tupleKind (intKind prog w)) d us → Heap.SameBut d s.heap h' → Q () { s with heap := h' }) : wpAny (model prog w) A (Builtin.Dict.mergeDict nm d o) Q E s := by
  obtain ⟨od, esd, epd, hod, hcd, hdd, hed, hid, hnd⟩ := id hd
  obtain ⟨oo, eso, epo, hoo, hco, hdo', heo, hio, hno⟩ := id ho
  have hlo : eso.size = us.length := size_of_entries heo
  have hemp : esd = #[] := by
    have := size_of_entries hed
    exact Array.size_eq_zero_iff.mp this
  subst hemp
  unfold Builtin.Dict.mergeDict
  rw [if_neg (by simpa using hdo)]
  unfold Builtin.Dict.showsAll
  rw [if_neg (by rw [hoS]; exact Bool.false_ne_true)]
  refine wpAny_bind (wpAny_pure ?_)
  refine wpAny_bind (wpAny_dictEntries hoo hdo' ?_)
  dsimp only
  cases us with
  | nil =>
    have h0 : eso = #[] := Array.size_eq_zero_iff.mp (by rw [hlo]; rfl)
    subst h0
    rw [if_neg (by simp)]
    refine wpAny_bind (wpAny_dictEpoch hoo hdo' ?_)
    refine wpAny_bind (wpAny_dictEntries hoo hdo' ?_)
    refine wpAny_bind ?_
    rw [Std.Legacy.Range.forIn_eq_forIn_range']
    exact wpAny_pure (wpAny_pure (hQ _ hd (Heap.SameBut.refl _ _)))
  | cons x r =>
    have hall : (eso.all fun e => (keyPart e.key).isSome) = false := by
      rw [← Array.all_toList, heo]; rfl
    rw [if_pos (by rw [hall, Bool.and_false]; rfl)]
    refine wpAny_bind (wpAny_dictEntries hod hdd ?_)
    rw [if_pos (by rfl)]
    refine wpAny_bind (copyE hoo hdo' heo hio hn ?_)
    rw [if_pos (by
      have : eso.isEmpty = false := by
        rw [Array.isEmpty_eq_false_iff]; intro e; rw [e] at hlo; simp at hlo
      rw [this]; rfl)]
    have hto : eso.size ≤ sizeLine + 1 := by rw [hlo, sizeLine_eq]; omega
    refine wpAny_bind (wpAny_updateDictKeysTo hod hdd (wpAny_pure (hQ _ ⟨_, _, epd + 1, Heap.get?_update_self _ hod (Obj.isFreed_of_dict (Obj.data_mapDictKeys hdd _)), hcd.mapDictKeys _,
          Obj.data_mapDictKeys hdd _, heo, fun x hx => ?_, hno⟩ (Heap.SameBut.update ..))) hto)
    exact (tupleKind (intKind prog w)).keeps (hio x hx) hod hdd (Heap.SameBut.update ..)
end

end Mine

namespace Mine
-- Fw12
set_option maxRecDepth 100000
theorem lk_list_keys : typeLookup (.type "list") "keys" = pure none := by rw [typeLookup_type, builtinLookup_eq_fast]; kernel_rfl
theorem lk_list_hook : typeLookup (.type "list") "__getattr__" = pure none := by rw [typeLookup_type, builtinLookup_eq_fast]; kernel_rfl
theorem ae_first (v : Value) : firstArgMember (.type "AttributeError") [v] = pure .none := by kernel_rfl
theorem ae_sub : isSubtype (.type "AttributeError") (.type "AttributeError") = pure true := by rw [isSubtype_type]; kernel_rfl
variable {prog : Program} {w : World} {A : Around} {E : Value → Shared → Prop} {h : Heap} {g : Array GenState} {d : Drawn} {t : Nat} {os : OsState} {a : Addr} {us : Array Value} {n : Nat}
theorem raise_ae {α : Type} {o : Value} {name msg : PySem.Str} {s : Shared} {Q : α → Shared → Prop} (hh : A.handled = none) (hm : msg.length ≤ sizeLine)
   (hq : ∀ e h' t', (∀ b o, s.heap.get? b = some o → h'.get? b = some o) → (∃ o, h'.get? e = some o ∧ o.cls = .type "AttributeError") → E (.ref e) { s with heap := h', toks := t' }) :
    wpAny (model prog w) A (raiseAttrError o name msg) Q E s := by
  unfold raiseAttrError
  refine wpAny_bind (wpAny_mkStr ?_ hm)
  refine wpAny_bind ?_
  unfold newExc newTuple
  refine wpAny_bind (wpAny_newObj_type ?_ (by show 1 ≤ sizeLine; rw [sizeLine_eq]; omega))
  refine wpAny_bind (m := firstArgMember _ _) (wpAny_of_eq (ae_first _) ?_)
  refine wpAny_newObj_type ?_ (by show 8 ≤ sizeLine + 2; rw [sizeLine_eq]; omega)
  dsimp only
  have eo : ownMembersOf (.type "AttributeError") [Value.str msg s.toks] = #[unsetMember, unsetMember] := rfl
  rw [eo]
  generalize hT : Heap.push s.heap { cls := .type "tuple", data := _ } = H
  have k1 : ∀ b o, s.heap.get? b = some o → H.get? b = some o := fun b o e => by rw [← hT]; exact Heap.get?_push_of_some _ e
  generalize hP : Heap.push H _ = H₂
  have k2 : ∀ b o, H.get? b = some o → H₂.get? b = some o := fun b o e => by rw [← hP]; exact Heap.get?_push_of_some _ e
  have gE := hP ▸ Heap.get?_push_size H (o := { cls := .type "AttributeError", data := .fields (#[Value.ref s.heap.objs.size, Value.none, Value.none, Value.none, Value.bool false, Value.none] ++ #[unsetMember, unsetMember]) }) rfl
  have nE : ∀ b o, s.heap.get? b = some o → b ≠ H.objs.size := fun b o e => Nat.ne_of_lt (Heap.lt_size (k1 b o e))
  generalize H.objs.size = e at gE nE ⊢
  refine wpAny_bind (wpAny_mkText ?_)
  dsimp only
  generalize s.toks + 1 + 1 = tk
  have hT : ∀ tk, ({ heap := H₂, gens := s.gens, drawn := s.drawn, toks := tk, os := s.os } : Shared).TypeIs (.ref e) "AttributeError" := fun _ => ⟨_, gE, rfl⟩
  refine wpAny_bind ?_
  unfold noteAttr
  dsimp only
  refine wpAny_bind ?_
  unfold lacksNameAndObj
  dsimp only
  refine wpAny_bind (wpAny_isInstance (hT _) ae_sub ?_)
  refine wpAny_bind (wpAny_load gE ?_)
  show wpAny _ _ (pure true) _ _ _
  refine wpAny_pure ?_
  rw [if_pos rfl]
  refine wpAny_bind (wpAny_rule ?_)
  refine wpAny_bind (wpAny_typeOf (hT _) ?_)
  show wpAny _ _ (layMembers e 6 _) _ _ _
  unfold layMembers
  refine wpAny_bind (wpAny_load gE ?_)
  refine wpAny_update gE (wpAny_raiseNew_none hh ?_)
  refine hq e _ tk (fun b o g => ?_) ⟨_, Heap.get?_update_self _ gE rfl, rfl⟩
  exact (Heap.get?_update_other _ _ (Ne.symm (nE b o g))).trans (k2 b o (k1 b o g))

theorem ae_msg : (Str.ofString (toString "'" ++ toString ((Manifest.find? "list").elim "list" fun x => x.tpName) ++ toString "' object has no attribute '") ++ Str.ofString "keys" ++ Str.ofString "'").length ≤ 1000 := by decide +kernel
theorem keys_entry {tk : Tok} {Q : Fin → Shared → Prop} (hh : A.handled = none) (hx : h.get? a = some (PySem.W.listOf us n)) 
   (hq : ∀ e h' t', (∀ b o, h.get? b = some o → h'.get? b = some o) → (∃ o, h'.get? e = some o ∧ o.cls = .type "AttributeError") → E (.ref e) ⟨h', g, d, t', os⟩) :
    wpAny (model prog w) A (Builtin.«object.__getattribute__» ⟨[.ref a, .str "keys" tk], []⟩) Q E ⟨h, g, d, t, os⟩ := by
  have hT : (⟨h, g, d, t, os⟩ : Shared).TypeIs (.ref a) "list" := ⟨_, hx, rfl⟩
  have f4 := lk_list_keys
  repeat (any_goals (first | assumption | wp_step))
  exact raise_ae hh (Nat.le_trans ae_msg (by rw [sizeLine_eq]; omega)) hq
theorem keys_call {tk : Tok} {R : Result → Shared → Prop} (hh : A.handled = none) (hx : h.get? a = some (PySem.W.listOf us n))
   (hq : ∀ e h' t', (∀ b o, h.get? b = some o → h'.get? b = some o) → (∃ o, h'.get? e = some o ∧ o.cls = .type "AttributeError") → R (.error (.ref e)) ⟨h', g, d, t', os⟩) :
    codeAny (model prog w) A (.call (.builtin "list.__getattribute__") ⟨[.ref a, .str "keys" tk], []⟩) R ⟨h, g, d, t, os⟩ :=
  codeAny_call_builtin F.slot_list_getattribute.plain F.entry_list_ga (F.slot_list_getattribute.check _ _ _ _ _ _ _ _ (show (⟨h, g, d, t, os⟩ : Shared).TypeIs (.ref a) "list" from ⟨_, hx, rfl⟩) (F.args_list_getattribute_2 _ _) (keys_entry hh hx hq))
theorem keys_by {tk : Tok} {Q : Value → Shared → Prop} (hh : A.handled = none) (hx : h.get? a = some (PySem.W.listOf us n))
   (hq : ∀ e h' t', (∀ b o, h.get? b = some o → h'.get? b = some o) → (∃ o, h'.get? e = some o ∧ o.cls = .type "AttributeError") → E (.ref e) ⟨h', g, d, t', os⟩) :
    wpAny (model prog w) A (getAttrBy (.ref a) (.str "keys" tk) false) Q E ⟨h, g, d, t, os⟩ := by
  have hT : (⟨h, g, d, t, os⟩ : Shared).TypeIs (.ref a) "list" := ⟨_, hx, rfl⟩
  have f2 := F.slot_list_getattribute.lookup
  have f3 := F.slot_list_getattribute.bind (.ref a)
  repeat (any_goals (first | assumption | wp_step))
  refine keys_call hh hx fun e h' t' k o => ?_
  dsimp only
  unfold getattributeRaised
  have hE : (⟨h', g, d, t', os⟩ : Shared).TypeIs (.ref e) "AttributeError" := o
  refine wpAny_bind (wpAny_isInstance hE ae_sub ?_)
  rw [if_pos rfl]
  unfold hookBehind
  refine wpAny_bind (wpAny_of_eq lk_list_hook ?_)
  exact wpAny_throw (hq e h' t' k o)
theorem keys_miss {Q : Option Value → Shared → Prop} (hh : A.handled = none) (hx : h.get? a = some (PySem.W.listOf us n))
   (hq : ∀ h' t', (∀ b o, h.get? b = some o → h'.get? b = some o) → Q none ⟨h', g, d, t', os⟩) :
    wpAny (model prog w) A (getAttr? (.ref a) "keys") Q E ⟨h, g, d, t, os⟩ := by
  unfold getAttr? getAttrBy?
  refine wpAny_bind (wpAny_mkText ?_)
  refine wpAny_bind (wpAny_attempt (keys_by hh hx fun e h' t' k o => ?_))
  have hE : (⟨h', g, d, t', os⟩ : Shared).TypeIs (.ref e) "AttributeError" := o
  dsimp only
  refine wpAny_bind (wpAny_isInstance hE ae_sub ?_)
  rw [if_pos rfl]
  exact wpAny_pure (hq h' t' k)

end Mine

namespace Mine
-- Fw13
set_option maxRecDepth 100000
theorem ul_entry : entryFor table "dict.update.loop" = some Builtin.«dict.update.loop» := by first | exact entryFor_of_fast (by kernel_rfl) | exact entryFor_of_tree (by kernel_rfl)
theorem ul_plain : plainId "dict.update.loop" = true := by decide +kernel
/-- a tuple of an int and a value -/
def PairAt (h : Heap) (v : Value) (k : Int) (x : Value) : Prop := ∃ T t, v = .ref T ∧ IsTup h T #[.int k t, x]
theorem ul_loop {prog : Program} {w : World} {A : Around} {R : Result → Shared → Prop} {l I D : Addr} {vs : List Value} {rows : List (Int × Value)} (hh : A.handled = none) (hIS : I ≠ D) (hlI : l ≠ I) (hlD : l ≠ D) (hlen : vs.length = rows.length) (hz : rows.length ≤ 1000) :
    ∀ (k i : Nat) (s : Shared) (acc : List (Int × Value)), rows.length - i = k → i ≤ rows.length → acc.length ≤ i → s.heap.IsList l vs.toArray → s.heap.IsListIter I l i → s.heap.DictOf (intKind prog w) D acc →
      (∀ (j : Nat) (v : Value) (r : Int × Value), vs[j]? = some v → rows[j]? = some r → PairAt s.heap v r.1 r.2) →
      (∀ h' tk, (∀ b o, b ≠ I → b ≠ D → s.heap.get? b = some o → h'.get? b = some o) → h'.DictOf (intKind prog w) D ((rows.drop i).foldl (fun d r => stored d r.1 r.2) acc) → R (.ok (.ret .none)) { s with heap := h', toks := tk }) →
      codeAny (model prog w) A (.builtin "dict.update.loop" ⟨[.ref D, .ref I, rawInt i, .none], []⟩) R s := by
  intro k
  induction k with
  | zero =>
    intro i s acc hk hle ha hl hit hd hp hR
    have hin : i = rows.length := by omega
    subst hin
    refine codeAny_builtin ul_entry ?_
    rw [Around.under_plainId ul_plain _]
    show wpAny _ A.in1 (pyNext (.ref I) >>= _) _ _ s
    refine wpAny_bind (wpAny_pyNext_list_end hh hit hl (by simp [hlen]) fun h' he => ?_)
    refine wpAny_bind (wpAny_pure (wpAny_pure (hR h' s.toks (fun b o hb _ e => he b o hb e) ?_)))
    rw [List.drop_length]
    exact hd.at fun o g => he D o (Ne.symm hIS) g
  | succ k ih =>
    intro i s acc hk hle ha hl hit hd hp hR
    have hlt : i < rows.length := by omega
    obtain ⟨x, hx⟩ : ∃ x, vs[i]? = some x := ⟨vs[i]'(by omega), List.getElem?_eq_getElem (by omega)⟩
    have hr : rows[i]? = some rows[i] := List.getElem?_eq_getElem hlt
    obtain ⟨T, t, rfl, oT, gT, cT, nT, dT⟩ := hp i x _ hx hr
    refine codeAny_builtin ul_entry ?_
    rw [Around.under_plainId ul_plain _]
    show wpAny _ A.in1 (pyNext (.ref I) >>= _) _ _ s
    refine wpAny_bind (wpAny_pyNext_list_item (x := .ref T) hit hl (by simpa using hx) fun h' hit' hs => ?_)
    have nTI : T ≠ I := by
      rintro rfl
      obtain ⟨o, g, c, _⟩ := hit
      rw [gT] at g; cases g; rw [cT] at c; simp at c
    have nTD : T ≠ D := by
      rintro rfl
      obtain ⟨o, _, _, g, c, _⟩ := hd
      rw [gT] at g; cases g; have c := c.1; rw [cT] at c; simp at c
    have gT' : h'.get? T = some oT := hs.extBut T oT nTI gT
    have hd' : h'.DictOf (intKind prog w) D acc := hd.at fun o g => hs.extBut D o (Ne.symm hIS) g
    refine wpAny_bind (wpAny_holding ?_)
    refine wpAny_bind (wpAny_tryCatch ?_)
    unfold Builtin.Dict.pairItems
    refine wpAny_bind (wpAny_typeOf (T := "tuple") ⟨oT, gT', cT⟩ ?_)
    rw [if_pos (by decide)]
    refine wpAny_bind (wpAny_seqItems gT' dT (wpAny_pure ?_))
    show wpAny _ _ (holding _ (dictSet D (.int rows[i].1 t) rows[i].2)) _ _ _
    refine wpAny_holding (wpAny_dictSet_pairs (knd := intKind prog w) (k := rows[i].1) (by show (rows[i].1 == rows[i].1) = true; exact beq_self_eq_true _) hd' (fun h₂ hd₂ hs₂ => ?_) (by rw [sizeLine_eq]; omega))
    refine wpAny_pure ⟨plainId_quiet ul_plain _, ?_⟩
    have e : (rawInt ((i : Int) + 1)) = rawInt ((i + 1 : Nat) : Int) := by rfl
    show codeAny _ A (.builtin "dict.update.loop" ⟨[.ref D, .ref I, rawInt ((i : Int) + 1), .none], []⟩) R _
    rw [e]
    refine ih (i + 1) _ (stored acc rows[i].1 rows[i].2) (by omega) hlt ?_ ((hl.extBut hs.extBut hlI).extBut hs₂.extBut hlD) (hit'.extBut hs₂.extBut hIS) hd₂ (fun j v r hv hr => ?_) fun h₃ tk k₃ hd₃ => ?_
    · unfold stored
      split
      · rw [List.length_map]; omega
      · rw [List.length_append]; simp; omega
    · obtain ⟨T', t', rfl, o', g', c', n', d'⟩ := hp j v r hv hr
      have nI : T' ≠ I := by
        rintro rfl
        obtain ⟨o, g, c, _⟩ := hit
        rw [g'] at g; cases g; rw [c'] at c; simp at c
      have nD : T' ≠ D := by
        rintro rfl
        obtain ⟨o, _, _, g, c, _⟩ := hd
        rw [g'] at g; cases g; have c := c.1; rw [c'] at c; simp at c
      exact ⟨T', t', rfl, o', hs₂.extBut T' o' nD (hs.extBut T' o' nI g'), c', n', d'⟩
    · refine hR h₃ tk (fun b o nI nD g => k₃ b o nI nD (hs₂.extBut b o nD (hs.extBut b o nI g))) ?_
      rw [List.drop_eq_getElem_cons hlt]
      exact hd₃

end Mine

namespace Mine
-- Fw14
set_option maxRecDepth 100000
theorem fset2 {f : Fh} {a : Addr} {c c' : Cel} : fset (fset f a c) a c' = fset f a c' := by
  funext b; unfold fset; split <;> rfl
theorem rows_ex {hh : Heap} : ∀ (Ts : List Addr) (rows : List (Int × Value)), Ts.length = rows.length → (∀ (j : Nat) (T : Addr) (r : Int × Value), Ts[j]? = some T → rows[j]? = some r → Holds hh T (.tup [iv r.1, r.2])) →
    ∃ rows' : List (Int × Value), rows'.map (fun x => (x.1, er x.2)) = rows ∧ ∀ (j : Nat) (v : Value) (r : Int × Value), (Ts.map Value.ref)[j]? = some v → rows'[j]? = some r → PairAt hh v r.1 r.2
  | [], [], _, _ => ⟨[], rfl, fun j v r h => by simp at h⟩
  | [], _ :: _, h, _ => by cases h
  | _ :: _, [], h, _ => by cases h
  | T :: Ts, r :: rows, h, k => by
    obtain ⟨rs, e, p⟩ := rows_ex Ts rows (Nat.succ.inj h) fun j T' r' a b => k (j + 1) T' r' (by simpa using a) (by simpa using b)
    obtain ⟨us, hT, eu⟩ := k 0 T r rfl rfl
    obtain ⟨u, v, rfl, eu1, eu2⟩ := map2 eu
    obtain ⟨t, rfl⟩ := er_int eu1
    refine ⟨(r.1, v) :: rs, by rw [List.map_cons, e, eu2], fun j w r' a b => ?_⟩
    cases j with
    | zero => cases a; cases b; exact ⟨T, t, rfl, hT⟩
    | succ j => exact p j w r' (by simpa using a) (by simpa using b)
theorem fold_er : ∀ (rows acc : List (Int × Value)), (rows.foldl (fun d r => stored d r.1 r.2) acc).map (fun x => (x.1, er x.2)) = (rows.map fun x => (x.1, er x.2)).foldl (fun d r => stored d r.1 r.2) (acc.map fun x => (x.1, er x.2))
  | [], _ => rfl
  | r :: rows, acc => by
    rw [List.foldl_cons, fold_er rows, List.map_cons, List.foldl_cons, stored_er]
section
variable {X : Cx} {m : Loc} {f : Fh} {P : Value → Fh → Prop}
theorem Ca.dictP {d : Addr} {xs : List (List Int × Addr × Value)} (hG : X.G.Ok) (hd : f d = some (.pdict xs)) (hk : KeysAt f xs) (hz : xs.length ≤ 100) (hn : (xs.map fun x => tupleKeyHash ik x.1).Nodup)
    (h : ∀ a, f a = none → P (.ref a) (fset f a (.pdict xs))) : Ca X m f (.type "dict") [.ref d] P := fun us q s R => by
  obtain ⟨u, rfl, e⟩ := map1 q; cases er_ref e
  refine callType_codes (Q₁ := fun obj s₁ => obj = .ref s.heap.objs.size ∧ s₁ = { s with heap := s.heap.push { cls := .type "dict", data := .dict #[] } }) F.kt_called_dict (F.kt_typeCall_dict_1 _) PySem.F.entry_dict_init (kt_code_dict_new _ ⟨rfl, rfl⟩) ?_
  rintro obj s₁ ⟨rfl, rfl⟩
  have hnone : s.heap.get? s.heap.objs.size = none := nosize
  have fa := R.toRelH.fresh hnone
  have hda : s.heap.objs.size ≠ d := by rintro rfl; rw [fa] at hd; cases hd
  have hnew0 : (s.heap.push { cls := .type "dict", data := .dict #[] }).DictOfH (tupleKind (intKind X.G.prog X.G.w)) s.heap.objs.size [] := Heap.DictOfH.new s.heap
  have R₁ : RelF X.G X.L m (fset f s.heap.objs.size (.pdict [])) (s.heap.push { cls := .type "dict", data := .dict #[] }) :=
    R.new (fun _ _ => Heap.get?_push_of_some _) hnone (holds_pdict (us := []) hnew0)
  have K₁ : Kept X.L f s.heap (fset f s.heap.objs.size (.pdict [])) (s.heap.push { cls := .type "dict", data := .dict #[] }) := Kept.new (fun _ _ => Heap.get?_push_of_some _) hnone
  have hd₁ : fset f s.heap.objs.size (.pdict []) d = some (.pdict xs) := by rw [fset_ne hda.symm]; exact hd
  have hk₁ : KeysAt (fset f s.heap.objs.size (.pdict [])) xs := fun x hx => by
    rw [fset_ne (by intro q; have := hk x hx; rw [q, fa] at this; cases this)]; exact hk x hx
  generalize s.heap.objs.size = a at *
  generalize s.heap.push { cls := .type "dict", data := .dict #[] } = H at *
  obtain ⟨us, hm, hxs⟩ := R₁.toRelH.pdict (prog := X.G.prog) (w := X.G.w) hd₁ hk₁
  refine ⟨hnew0.typeIs, PySem.F.args_dict_init_2 _ _, ?_⟩
  unfold Builtin.«dict.__init__»
  refine wpAny_bind ?_
  unfold Builtin.Dict.selfAndRest
  refine wpAny_bind (wpAny_notOrdered_dict (Heap.DictOfH.typeIs (s := { s with heap := H }) hnew0) ?_)
  show wpAny _ _ (pure (a, [Value.ref d])) _ _ _
  refine wpAny_pure ?_
  show wpAny _ _ (Builtin.Dict.updateFrom "dict.__init__" a (.ref d) [] .none) _ _ _
  unfold Builtin.Dict.updateFrom
  have hT : ({ s with heap := H } : Shared).TypeIs (.ref d) "dict" := Heap.DictOfH.typeIs (s := { s with heap := H }) hm
  refine wpAny_bind (wpAny_typeOf hT ?_)
  rw [if_neg (by decide)]
  refine wpAny_bind ?_
  unfold Builtin.Dict.merge
  refine wpAny_bind ?_
  unfold Builtin.Dict.readDirectly
  refine wpAny_bind (wpAny_isInstance hT isSubtype_dict_dict ?_)
  simp only [Bool.not_true, Bool.false_eq_true, if_false]
  refine wpAny_bind (wpAny_specialOf hT PySem.F.slot_dict_iter.lookup (wpAny_pure ?_))
  simp only [beq_self_eq_true, if_true]
  refine wpAny_bind (wpAny_pure ?_)
  have hlen : us.length = xs.length := by rw [← hxs, List.length_map]
  refine mergeP hda (R₁.toRelH.notSys hG hd₁) hnew0 hm ?_ (by omega) fun h' hd' hs' => ?_
  · rw [← hxs, List.map_map] at hn; exact hn
  show wpAny _ _ (Builtin.Dict.addKeywords a [] >>= _) _ _ _
  refine wpAny_bind (wpAny_pure (wpAny_pure ⟨rfl, ?_⟩))
  have ec : fset f a (.pdict []) a = some (.pdict []) := fset_self
  have R₂ := R₁.upd (c' := .pdict xs) ec hs'.extBut (by rw [← hxs]; exact holds_pdict hd')
  have K₂ : Kept X.L (fset f a (.pdict [])) H (fset (fset f a (.pdict [])) a (.pdict xs)) h' := Kept.upd ec hs'.extBut
  rw [fset2] at R₂ K₂
  exact ⟨Sm.rfl, m, _, R₂, K₁.trans K₂, rfl, h a fa⟩
theorem Ca.dictL {l : Addr} {Ts : List Addr} {rows : List (Int × Value)} (hA : X.A.handled = none) (hl : f l = some (.list (Ts.map .ref))) (hlen : Ts.length = rows.length) (hz : rows.length ≤ 1000)
    (hk : ∀ (j : Nat) (T : Addr) (r : Int × Value), Ts[j]? = some T → rows[j]? = some r → f T = some (.tup [iv r.1, r.2]))
    (h : ∀ a, f a = none → P (.ref a) (fset f a (.idict (rows.foldl (fun d r => stored d r.1 r.2) [])))) : Ca X m f (.type "dict") [.ref l] P := fun us q s R => by
  obtain ⟨u, rfl, e⟩ := map1 q; cases er_ref e
  refine callType_codes (Q₁ := fun obj s₁ => obj = .ref s.heap.objs.size ∧ s₁ = { s with heap := s.heap.push { cls := .type "dict", data := .dict #[] } }) F.kt_called_dict (F.kt_typeCall_dict_1 _) PySem.F.entry_dict_init (kt_code_dict_new _ ⟨rfl, rfl⟩) ?_
  rintro obj s₁ ⟨rfl, rfl⟩
  have hnone : s.heap.get? s.heap.objs.size = none := nosize
  have fa := R.toRelH.fresh hnone
  have hla : l ≠ s.heap.objs.size := by rintro rfl; rw [fa] at hl; cases hl
  have hnew0 : (s.heap.push { cls := .type "dict", data := .dict #[] }).DictOf ik s.heap.objs.size [] := Heap.DictOf.new s.heap
  have R₁ : RelF X.G X.L m (fset f s.heap.objs.size (.idict [])) (s.heap.push { cls := .type "dict", data := .dict #[] }) :=
    R.new (fun _ _ => Heap.get?_push_of_some _) hnone ⟨[], hnew0, rfl⟩
  have K₁ : Kept X.L f s.heap (fset f s.heap.objs.size (.idict [])) (s.heap.push { cls := .type "dict", data := .dict #[] }) := Kept.new (fun _ _ => Heap.get?_push_of_some _) hnone
  have hl₁ : fset f s.heap.objs.size (.idict []) l = some (.list (Ts.map .ref)) := by rw [fset_ne hla]; exact hl
  have hk₁ : ∀ (j : Nat) (T : Addr) (r : Int × Value), Ts[j]? = some T → rows[j]? = some r → fset f s.heap.objs.size (.idict []) T = some (.tup [iv r.1, r.2]) := fun j T r hT hr => by
    have := hk j T r hT hr
    rw [fset_ne (by rintro rfl; rw [fa] at this; cases this)]; exact this
  generalize s.heap.objs.size = a at *
  generalize s.heap.push { cls := .type "dict", data := .dict #[] } = H at *
  obtain ⟨us, n, g, eus⟩ := R₁.holds _ _ hl₁
  have eus' : us = Ts.map .ref := by
    clear g hl hl₁ hk hk₁ hlen
    induction us generalizing Ts with
    | nil => cases Ts with | nil => rfl | cons _ _ => cases eus
    | cons u us ih =>
      cases Ts with
      | nil => cases eus
      | cons T Ts =>
        simp only [List.map_cons, List.cons.injEq] at eus
        rw [List.map_cons, er_ref eus.1, ih eus.2]
  subst eus'
  refine ⟨(dictOf_ik (p' := X.G.prog) (w' := X.G.w) hnew0).typeIs, PySem.F.args_dict_init_2 _ _, ?_⟩
  unfold Builtin.«dict.__init__»
  refine wpAny_bind ?_
  unfold Builtin.Dict.selfAndRest
  refine wpAny_bind (wpAny_notOrdered_dict (Heap.DictOf.typeIs (s := { s with heap := H }) hnew0) ?_)
  show wpAny _ _ (pure (a, [Value.ref l])) _ _ _
  refine wpAny_pure ?_
  show wpAny _ _ (Builtin.Dict.updateFrom "dict.__init__" a (.ref l) [] .none) _ _ _
  unfold Builtin.Dict.updateFrom
  have hT : ({ s with heap := H } : Shared).TypeIs (.ref l) "list" := ⟨_, g, rfl⟩
  refine wpAny_bind (wpAny_typeOf hT ?_)
  rw [if_pos (by decide)]
  refine wpAny_bind (keys_miss (A := X.A.in1.in1) hA g fun h₁ tk k₁ => ?_)
  rw [if_pos (show (none : Option Value).isNone = true from rfl)]
  refine wpAny_bind (wpAny_rule ?_)
  have g₁ : h₁.IsList l (Ts.map Value.ref).toArray := ⟨_, k₁ _ _ g, rfl, n, rfl⟩
  refine wpAny_bind (wpAny_pyIter_list g₁ ?_)
  refine wpAny_pure ⟨plainId_quiet ul_plain _, ?_⟩
  have k₂ : ∀ b o, h₁.get? b = some o → (h₁.push { cls := .type "list_iterator", data := .fields #[.ref l, .int 0 0] }).get? b = some o := fun _ _ => Heap.get?_push_of_some _
  have hit : (h₁.push { cls := .type "list_iterator", data := .fields #[.ref l, .int 0 0] }).IsListIter h₁.objs.size l 0 := ⟨_, Heap.get?_push_size _ rfl, rfl, rfl⟩
  have nI : h₁.get? h₁.objs.size = none := nosize
  generalize h₁.objs.size = I at *
  generalize h₁.push { cls := .type "list_iterator", data := .fields #[.ref l, .int 0 0] } = H₂ at *
  have kk : ∀ b o, H.get? b = some o → H₂.get? b = some o := fun b o e => k₂ b o (k₁ b o e)
  have R₂ := R₁.grow kk
  have ha₂ : H₂.DictOf (intKind X.G.prog X.G.w) a [] := dictOf_ik (hnew0.at fun o e => kk a o e)
  have hIa : I ≠ a := by
    rintro rfl
    obtain ⟨o, _, _, e, _⟩ := hnew0
    rw [k₁ _ _ e] at nI; cases nI
  have hlI : l ≠ I := by rintro rfl; rw [k₁ _ _ g] at nI; cases nI
  obtain ⟨rows', er', hp⟩ := rows_ex (hh := H₂) Ts rows hlen fun j T r hT hr => R₂.holds _ _ (hk₁ j T r hT hr)
  have hl' : rows'.length = rows.length := by rw [← er', List.length_map]
  refine ul_loop (A := X.A.in1) hA hIa hlI hla (by rw [List.length_map, hl']; exact hlen) (by omega) rows'.length 0 _ [] (by omega) (Nat.zero_le _) (Nat.zero_le _) (by obtain ⟨o, e, r⟩ := g₁; exact ⟨o, k₂ _ _ e, r⟩) hit ha₂ hp fun h₃ tk₃ k₃ hd₃ => ⟨rfl, ?_⟩
  rw [List.drop_zero] at hd₃
  have ec : fset f a (.idict []) a = some (.idict []) := fset_self
  have fI : fset f a (.idict []) I = none := by
    cases q : fset f a (.idict []) I with
    | none => rfl
    | some c =>
      obtain ⟨o, e⟩ := (R₁.holds _ _ q).ex
      rw [k₁ _ _ e] at nI; cases nI
  have bI : X.G.h₀.get? I = none := by
    cases q : X.G.h₀.get? I with
    | none => rfl
    | some o => rw [k₁ _ _ (R₁.base _ _ q)] at nI; cases nI
  have hIL : I ≠ X.L := by
    rintro rfl
    obtain ⟨o, e⟩ := R₁.lsome
    rw [k₁ _ _ e] at nI; cases nI
  have hold : Holds h₃ a (.idict (rows.foldl (fun d r => stored d r.1 r.2) [])) := ⟨_, dictOf_ik hd₃, by rw [fold_er, er']; rfl⟩
  have haL : a ≠ X.L := by rintro rfl; obtain ⟨o, e⟩ := R.lsome; rw [hnone] at e; cases e
  have R₃ : RelF X.G X.L m (fset (fset f a (.idict [])) a (.idict (rows.foldl (fun d r => stored d r.1 r.2) []))) h₃ := by
    refine ⟨⟨fun b c e => ?_, fun b o e => ?_, fun b o e => ?_⟩, ?_, ?_, R₂.locb⟩
    · by_cases q : b = a
      · subst q; rw [fset_self] at e; cases e; exact hold
      · rw [fset_ne q] at e
        exact (R₂.holds b c e).mono fun o => k₃ b o (by rintro rfl; rw [fI] at e; cases e) q
    · exact k₃ b o (by rintro rfl; rw [bI] at e; cases e) (by rintro rfl; have := R₂.off _ _ e; rw [ec] at this; cases this) (R₂.base b o e)
    · rw [fset_ne (by rintro rfl; have := R₂.off _ _ e; rw [ec] at this; cases this)]; exact R₂.off b o e
    · obtain ⟨u, nu, eu⟩ := R₂.ns
      exact ⟨u, nu.at' fun o => k₃ _ o hIL.symm haL.symm, eu⟩
    · rw [fset_ne haL.symm]; exact R₂.loc
  rw [fset2] at R₃
  refine ⟨Sm.rfl, m, _, R₃, fun b o nL e₁ g => ?_, rfl, h a fa⟩
  have nb : b ≠ a := by rintro rfl; rw [hnone] at g; cases g
  have gH : H.get? b = some o := (K₁ b o nL e₁ g).1
  exact ⟨k₃ b o (by rintro rfl; rw [k₁ _ _ gH] at nI; cases nI) nb (kk b o gH), by rw [fset_ne nb]; exact e₁⟩
end

end Mine

namespace Mine
-- Fw15
set_option maxRecDepth 100000
def atD : Value → PyData
  | .int i _ => .int i
  | .str x _ => .str x
  | .bool b => .bool b
  | _ => .none
def atOk : Value → Bool
  | .int _ _ => true
  | .str x _ => PyData.strOk x
  | .bool _ => true
  | .none => true
  | _ => false
theorem at_reads {h : Heap} {u : Value} (k : atOk (er u) = true) : Reads h u (atD (er u)) [] := by
  cases u <;> first | exact .int _ _ | exact .str _ _ | exact .bool _ | exact .none | cases k
theorem at_readsAll {h : Heap} : ∀ {us r : List Value}, us.map er = r → r.all atOk = true → ReadsAll h us (r.map atD) []
  | [], [], _, _ => .nil
  | [], _ :: _, e, _ => by cases e
  | _ :: _, [], e, _ => by cases e
  | u :: us, v :: r, e, k => by
    simp only [List.map_cons, List.cons.injEq] at e
    rw [List.all_cons, Bool.and_eq_true] at k
    obtain ⟨rfl, e⟩ := e
    exact .cons (at_reads k.1) (at_readsAll e k.2)
theorem at_eqv (v : Value) : PyData.eqv (atD v) (atD v) = true := by cases v <;> simp [atD, PyData.eqv]
theorem at_lay {v : Value} (h : atOk v = true) : (atD v).canLay0 = true ∧ (atD v).depth = 0 := by
  cases v <;> simp_all [atD, atOk, PyData.canLay0, PyData.depth]
theorem atAll_lay : ∀ {r : List Value}, r.all atOk = true → PyData.canLayAll0 (r.map atD) = true ∧ PyData.depthAll (r.map atD) = 0
  | [], _ => by simp [PyData.canLayAll0, PyData.depthAll]
  | v :: r, h => by
    rw [List.all_cons, Bool.and_eq_true] at h
    have a := at_lay h.1
    have b := atAll_lay h.2
    simp [PyData.canLayAll0, PyData.depthAll, a.1, a.2, b.1, b.2]
theorem atAll_eqv : ∀ r : List Value, PyData.eqvAll (r.map atD) (r.map atD) = true
  | [] => by simp [PyData.eqvAll]
  | v :: r => by rw [List.map_cons, PyData.eqvAll, at_eqv, atAll_eqv]; rfl
/-- a list of tuples of plain values -/
def RowsAt (f : Fh) (l : Addr) (rows : List (List Value)) : Prop := ∃ Ts : List Addr, IsL f l (Ts.map .ref) ∧ Ts.length = rows.length ∧ ∀ (j : Nat) (T : Addr) (r : List Value), Ts[j]? = some T → rows[j]? = some r → f T = some (.tup r)
abbrev rowsD (rows : List (List Value)) : List PyData := rows.map fun r => .tuple (r.map atD)
theorem rows_lay : ∀ {rows : List (List Value)}, (∀ r ∈ rows, r.all atOk = true) → PyData.canLayAll0 (rowsD rows) = true ∧ PyData.depthAll (rowsD rows) ≤ 1
  | [], _ => by simp [PyData.canLayAll0, PyData.depthAll]
  | r :: rows, h => by
    have a := atAll_lay (h r (.head _))
    have b := rows_lay fun r hr => h r (.tail _ hr)
    refine ⟨by simp only [rowsD, List.map_cons, PyData.canLayAll0, PyData.canLay0, a.1]; exact b.1, ?_⟩
    simp only [rowsD, List.map_cons, PyData.depthAll, PyData.depth, a.2]
    have := b.2
    simp only [rowsD] at this
    omega
theorem rows_eqv : ∀ rows : List (List Value), PyData.eqvAll (rowsD rows) (rowsD rows) = true
  | [] => by simp [PyData.eqvAll]
  | r :: rows => by
    have := rows_eqv rows
    simp only [rowsD, List.map_cons, PyData.eqvAll, PyData.eqv, atAll_eqv] at this ⊢
    exact this
theorem rows_shaped {rows : List (List Value)} (h : ∀ r ∈ rows, r.all atOk = true) : PySem.SeqAt.shaped (.list (rowsD rows)) = true := by
  have a := rows_lay h
  unfold PySem.SeqAt.shaped
  rw [PyData.canLay0, a.1, Bool.true_and]
  have := a.2
  exact decide_eq_true (by rw [PyData.depth]; omega)
theorem rows_all {h : Heap} : ∀ {us : List Value} {Ts : List Addr} {rows : List (List Value)}, us.map er = Ts.map .ref → Ts.length = rows.length → (∀ r ∈ rows, r.all atOk = true) →
    (∀ (j : Nat) (T : Addr) (r : List Value), Ts[j]? = some T → rows[j]? = some r → Holds h T (.tup r)) → ∃ as, ReadsAll h us (rowsD rows) as
  | [], [], [], _, _, _, _ => ⟨_, .nil⟩
  | u :: us, T :: Ts, r :: rows, e, l, k, g => by
    simp only [List.map_cons, List.cons.injEq] at e
    obtain ⟨as, q⟩ := rows_all e.2 (Nat.succ.inj l) (fun r hr => k r (.tail _ hr)) fun j T' r' a b => g (j + 1) T' r' (by simpa using a) (by simpa using b)
    cases er_ref e.1
    obtain ⟨vs, ⟨o, gT, c, n, d⟩, ev⟩ := g 0 T r rfl rfl
    exact ⟨_, .cons (reads_tuple_at gT c d (by simpa using at_readsAll ev (k r (.head _)))) q⟩
  | _ :: _, [], _, e, _, _, _ => by cases e
  | [], _ :: _, _, e, _, _, _ => by cases e
  | _, [], _ :: _, _, l, _, _ => by cases l
  | _, _ :: _, [], _, l, _, _ => by cases l
theorem RelH.rows {G : Gl} {f : Fh} {hh : Heap} {l : Addr} {rows : List (List Value)} (R : RelH G f hh) (h : RowsAt f l rows) (k : ∀ r ∈ rows, r.all atOk = true) : ∃ as, Reads hh (.ref l) (.list (rowsD rows)) as := by
  obtain ⟨Ts, hl, hlen, hT⟩ := h
  obtain ⟨us, ⟨o, g, c, n, d⟩, e⟩ := R.isL hl
  obtain ⟨as, q⟩ := rows_all e hlen k fun j T r a b => R.holds _ _ (hT j T r a b)
  exact ⟨_, reads_list_at g c d (by simpa using q)⟩
section
variable {X : Cx} {m : Loc} {f : Fh} {P : Value → Fh → Prop}
theorem Co.neRows {l l' : Addr} {rows : List (List Value)} (hA : X.A.units + 64 < cLine) (h : RowsAt f l rows) (h' : RowsAt f l' rows) (k : ∀ r ∈ rows, r.all atOk = true) (p : P (.bool false) f) : Co X m f .NotEq (.ref l) (.ref l') P := fun v w e e' => by
  cases er_ref e; cases er_ref e'
  intro s R
  obtain ⟨as, ra⟩ := R.toRelH.rows h k
  obtain ⟨bs, rb⟩ := R.toRelH.rows h' k
  refine ne_dataH ra rb (rows_shaped k) (rows_shaped k) hA ?_
  rw [PyData.eqv, rows_eqv]
  exact Out.hereE R p
theorem Co.eqRows {l l' : Addr} {rows : List (List Value)} (hA : X.A.units + 64 < cLine) (h : RowsAt f l rows) (h' : RowsAt f l' rows) (k : ∀ r ∈ rows, r.all atOk = true) (p : P (.bool true) f) : Co X m f .Eq (.ref l) (.ref l') P := fun v w e e' => by
  cases er_ref e; cases er_ref e'
  intro s R
  obtain ⟨as, ra⟩ := R.toRelH.rows h k
  obtain ⟨bs, rb⟩ := R.toRelH.rows h' k
  refine eq_dataH ra rb (rows_shaped k) (rows_shaped k) hA ?_
  rw [PyData.eqv, rows_eqv]
  exact Out.hereE R p
/-- pairs != before -/
theorem Co.neP {a b : Addr} {xs : List (List Int × Addr × Value)} (hG : X.G.Ok) (hA : X.A.units + 8 < cLine) (ha : f a = some (.pdict xs)) (hb : f b = some (.pdict xs)) (hk : KeysAt f xs) (hi : ∀ x ∈ xs, ∃ i, x.2.2 = iv i) (p : P (.bool false) f) :
    Co X m f .NotEq (.ref a) (.ref b) P := fun v w e e' => by
  cases er_ref e; cases er_ref e'
  intro s R
  obtain ⟨us, da, e1⟩ := R.toRelH.pdict (prog := X.G.prog) (w := X.G.w) ha hk
  obtain ⟨us', db, e2⟩ := R.toRelH.pdict (prog := X.G.prog) (w := X.G.w) hb hk
  refine Mine.neP (R.toRelH.notSys hG ha) (R.toRelH.notSys hG hb) da db (e1.trans e2.symm) (fun x hx => ?_) hA (Out.hereE R p)
  obtain ⟨i, hi'⟩ := hi (erx x) (e1 ▸ List.mem_map.mpr ⟨x, hx, rfl⟩)
  obtain ⟨t, ht⟩ := er_int (v := x.2.2) hi'
  exact ⟨i, t, ht⟩
theorem ints_all {h : Heap} {us : List Value} {ns : List Int} (e : us.map er = ns.map iv) : IntsAre us ns := by
  induction us generalizing ns with
  | nil => cases ns with | nil => exact .nil | cons _ _ => cases e
  | cons u us ih =>
    cases ns with
    | nil => cases e
    | cons n ns =>
      simp only [List.map_cons, List.cons.injEq] at e
      obtain ⟨t, rfl⟩ := er_int e.1
      exact .cons _ _ (ih e.2)
theorem ints_reads {h : Heap} {us : List Value} {ns : List Int} (e : us.map er = ns.map iv) : ReadsAll h us.toArray.toList (ns.map PyData.int) [] := by
  have := at_readsAll (h := h) e (by simp [atOk])
  rw [List.map_map] at this
  exact this
/-- a list of ints against a list of ints -/
theorem Co.neInts {a b : Addr} {ns ms : List Int} (hA : X.A.units + 64 < cLine) (ha : IsL f a (ns.map iv)) (hb : IsL f b (ms.map iv)) (p : P (.bool (!decide (ns = ms))) f) : Co X m f .NotEq (.ref a) (.ref b) P := fun v w e e' => by
  cases er_ref e; cases er_ref e'
  intro s R
  obtain ⟨us, ga, ea⟩ := R.toRelH.isL ha
  obtain ⟨us', gb, eb⟩ := R.toRelH.isL hb
  exact ke_ne_ints ga gb (ints_all (h := s.heap) ea) (ints_all (h := s.heap) eb) hA (Out.hereE R p)
theorem any_int (ns : List Int) (k : Int) : ((ns.map PyData.int).any fun y => PyData.eqv y (.int k)) = decide (k ∈ ns) := by
  induction ns with
  | nil => simp
  | cons n ns ih =>
    simp only [List.map_cons, List.any_cons, ih, PyData.eqv, List.mem_cons]
    by_cases h : n = k
    · simp [h]
    · have h' : ¬ k = n := fun e => h e.symm
      simp [h, h']
theorem Co.inInts {b : Addr} {ns : List Int} {k : Int} (hA : X.A.units + 64 < cLine) (hb : IsL f b (ns.map iv)) (p : P (.bool (decide (k ∈ ns))) f) : Co X m f .In (iv k) (.ref b) P := fun v w e e' => by
  obtain ⟨t, rfl⟩ := er_int e; cases er_ref e'
  intro s R
  obtain ⟨us, ⟨o, g, c, n, d⟩, eb⟩ := R.toRelH.isL hb
  refine PySem.SeqAt.in_list_reads (reads_list_at g c d (ints_reads eb)) (.int k t) (d := .int k) (xs := ns.map PyData.int) (ke_canLayAll0 ns) rfl ?_ ?_
  · have : PyData.depth (.int k) = 0 := by rw [PyData.depth]
    rw [this]; omega
  · refine Out.hereE R ?_
    have := any_int ns k
    show P (.bool ((ns.map PyData.int).any fun y => PyData.eqv y (.int k))) f
    rw [this]; exact p
theorem Co.notInInts {b : Addr} {ns : List Int} {k : Int} (hA : X.A.units + 64 < cLine) (hb : IsL f b (ns.map iv)) (p : P (.bool (!decide (k ∈ ns))) f) : Co X m f .NotIn (iv k) (.ref b) P := fun v w e e' => by
  obtain ⟨t, rfl⟩ := er_int e; cases er_ref e'
  intro s R
  obtain ⟨us, ⟨o, g, c, n, d⟩, eb⟩ := R.toRelH.isL hb
  refine PySem.SeqAt.notIn_list_reads (reads_list_at g c d (ints_reads eb)) (.int k t) (d := .int k) (xs := ns.map PyData.int) (ke_canLayAll0 ns) rfl ?_ ?_
  · have : PyData.depth (.int k) = 0 := by rw [PyData.depth]
    rw [this]; omega
  · refine Out.hereE R ?_
    have := any_int ns k
    show P (.bool (!((ns.map PyData.int).any fun y => PyData.eqv y (.int k)))) f
    rw [this]; exact p
end

end Mine

namespace Mine
-- Fw16
set_option maxRecDepth 100000
section
variable {X : Cx} {m : Loc} {f : Fh} {P : Value → Fh → Prop}
/-- a test a op b op' c -/
theorem Ts.chain {l r₁ r₂ : Expr} {o₁ o₂ : CmpOp} {pos : Pos} {P : Bool → Fh → Prop}
    (h : Ex X m f l fun a f₁ => Ex X m f₁ r₁ fun b f₂ => Co X m f₂ o₁ a b fun v f₃ => ∃ c, v = .bool c ∧ if c = true then Ex X m f₃ r₂ fun d f₄ => Co X m f₄ o₂ b d fun v f₅ => ∃ c, v = .bool c ∧ P c f₅ else P false f₃)
    (hm : lastMarks [o₁, o₂] [r₁, r₂] = false := by rfl) : Ts X m f (.Compare l [o₁, o₂] [r₁, r₂] pos) P := fun _ R =>
  isTrue_chain (h.use R fun _ _ _ sm k R h => test_link (h.use R fun _ _ _ sm' k' R h => TrE.use (h _ _ rfl rfl) R fun v _ _ sm'' k'' R ⟨c, e, h⟩ => by
    cases er_bool e
    refine wpAny_truthy_bool ?_
    cases c with
    | false => rw [if_neg (by decide)] at h ⊢; exact Out.from ((sm.trans sm').trans sm'') ((k.trans k').trans k'') (Out.here R ⟨rfl, h⟩)
    | true =>
      rw [if_pos rfl] at h ⊢
      exact test_last (h.use R fun _ _ _ sm3 k3 R h => TrE.use (h _ _ rfl rfl) R fun v _ _ sm4 k4 R ⟨c, e, h⟩ => by
        cases er_bool e
        exact wpAny_truthy_bool (Out.from ((((sm.trans sm').trans sm'').trans sm3).trans sm4) ((((k.trans k').trans k'').trans k3).trans k4) (Out.here R ⟨rfl, h⟩))))) hm
theorem Co.isNone {a : Value} (h : P (.bool (a == .none)) f) : Co X m f .Is a .none P := fun v w e e' => by
  cases er_none e'
  intro s R
  refine is_none_gen (Out.hereE R ?_)
  have : (v == .none) = (a == .none) := by rw [← e]; cases v <;> rfl
  show P (.bool (v == .none)) f
  rw [this]; exact h
/-- l + l' -/
theorem Bo.addL {l l' : Addr} {xs ys : List Value} (hl : IsL f l xs) (hl' : IsL f l' ys) (hz : xs.length + ys.length ≤ 1000) (h : ∀ D, f D = none → P (.ref D) (fset f D (.list (xs ++ ys)))) : Bo X m f .Add (.ref l) (.ref l') P := fun v w e e' => by
  cases er_ref e; cases er_ref e'
  intro s R
  obtain ⟨us, g, rfl⟩ := R.toRelH.isL hl
  obtain ⟨us', g', rfl⟩ := R.toRelH.isL hl'
  obtain ⟨u, nu, eu⟩ := R.ns
  rw [List.length_map, List.length_map] at hz
  refine add_lists (frE nu) (newsE (ex := [X.L]) (.head _)) g g' (fun h' F' N' => ?_) (by rw [sizeLine_eq]; omega)
  have hn : s.heap.get? s.heap.objs.size = none := nosize
  have gD : h'.get? s.heap.objs.size = some (PySem.W.listOf (us ++ us').toArray 0) := (N' _ (.head _)).1
  have hL : X.L ≠ s.heap.objs.size := by intro q; obtain ⟨o, g⟩ := R.lsome; rw [q, hn] at g; cases g
  have hS : Same X.L s.heap h' := ⟨fun b o n e => (N' _ (.tail _ (mem_rest e (by simpa using n)))).1, fun u' n' => by
    obtain ⟨o, es, ep, a1, a2, a3, a4⟩ := F'.ns
    obtain ⟨o2, es2, ep2, b1, b2, b3, b4⟩ := nu
    obtain ⟨o3, es3, ep3, c1, c2, c3, c4⟩ := n'
    rw [b1] at c1; cases c1
    rw [b2] at c2; cases c2
    exact ⟨o, es, ep, a1, a2, a3, fun y => by rw [a4, ← b4, c4]⟩⟩
  have R₁ := R.same hS
  have hold : Holds h' s.heap.objs.size (.list (us.map er ++ us'.map er)) := ⟨us ++ us', 0, gD, by rw [List.map_append]⟩
  have R₂ : RelF X.G X.L m (fset f s.heap.objs.size (.list (us.map er ++ us'.map er))) h' := ⟨R₁.toRelH.show (R.toRelH.nob hn) hold, R₁.ns, by rw [fset_ne hL]; exact R.loc, R.locb⟩
  exact ⟨Sm.rfl, m, _, R₂, fun b o n e g => ⟨hS.1 b o n g, by rw [fset_ne (by rintro rfl; rw [hn] at g; cases g)]; exact e⟩, rfl, h _ (R.toRelH.fresh hn)⟩
end
section
variable {X : Cx} {m : Loc} {f : Fh} {P : Loc → Fh → Prop}
/-- a target is given a value -/
def AsT (X : Cx) (m : Loc) (f : Fh) (t : Expr) (v : Value) (P : Loc → Fh → Prop) : Prop := ∀ u, er u = v → Tr X m f (assign t X.env u) fun _ m' f' => P m' f'
def AsL (X : Cx) (m : Loc) (f : Fh) (ts : List Expr) (vs : List Value) (P : Loc → Fh → Prop) : Prop := ∀ us, us.map er = vs → Tr X m f (assignInOrder ((assignEach ts X.env).map (·.2)) us) fun _ m' f' => P m' f'
theorem AsT.name {x : PySem.Str} {pos : Pos} {v : Value} (h : P (mset m x v) f) (hl : X.env.kindOf x = some .local := by rfl) (hk : X.env.scope.kind = .function := by rfl) : AsT X m f (.Name x pos) v P := fun u e s R => by
  obtain ⟨w, n, ew⟩ := R.ns
  subst e
  exact assign_Name (wpAny_storeName_local hl n (fun h' n' k' => ⟨Sm.rfl, _, _, R.store ew n' k', Kept.store k', h⟩) (by rw [hk]; rfl))
theorem AsT.attr {o : Expr} {n : PySem.Str} {ap : Pos} {v : Value} (hG : X.G.Ok)
    (h : Ex X m f o fun w f₂ => ∃ a C d es, w = .ref a ∧ SetOk X.G.K C n ∧ f₂ a = some (.inst C d) ∧ f₂ d = some (.dict es) ∧ (getL n es).isSome = true ∧ es.length ≤ 100 ∧ P m (fset f₂ d (.dict (putL n (PyData.keyHash X.G.w.params n) (sv n) v es)))) :
    AsT X m f (.Attribute o n ap) v P := fun u e s R => by
  subst e
  show wpAny _ _ (do let ov ← holding [u] (eval o X.env); standAt ap.atName; holding [u, ov] (setAttr ov n u); release [u, ov] []) _ _ s
  refine wpAny_bind (wpAny_holding (h.use R fun w _ _ sm k R ⟨a, C, d, es, e, ok, ha, hd, hl, hz, p⟩ => ?_))
  cases er_ref e
  exact wpAny_bind (wpAny_standAt (wpAny_bind (wpAny_holding (TrU.use (setAttr_ (P := P m) hG ok ha hd hl hz p) R fun _ _ sm' k' R p => wpAny_release (Out.from (sm.trans sm') (k.trans k') (Out.here R p))))))
theorem AsL.nil (h : P m f) : AsL X m f [] [] P := fun us e _ R => by cases map0 e; exact wpAny_pure (Out.here R h)
theorem AsL.cons {t : Expr} {ts : List Expr} {v : Value} {vs : List Value} (h : AsT X m f t v fun m' f' => AsL X m' f' ts vs P) (ha : assignEach (t :: ts) X.env = (false, assign t X.env) :: assignEach ts X.env := by rfl) : AsL X m f (t :: ts) (v :: vs) P := fun us e _ R => by
  obtain ⟨u, us, rfl, e1, e2⟩ := mapc e
  rw [ha]
  show wpAny _ _ (do holding us (assign t X.env u); assignInOrder ((assignEach ts X.env).map (·.2)) us) _ _ _
  exact wpAny_bind (wpAny_holding (Tr.then (h u e1) R fun _ _ _ _ sm k R p => Tr.outs (p us e2) R sm k))
theorem unpack_ {T : Addr} {vs : List Value} {n : Nat} {P : List Value → Fh → Prop} (hA : X.A.handled = none) (hT : f T = some (.tup vs)) (hn : n = vs.length) (h : P vs f) : TrL X m f (unpackItems (.ref T) n none) P := fun s R => by
  obtain ⟨us, ht, rfl⟩ := R.holds _ _ hT
  rw [List.length_map] at hn
  subst hn
  have := unpackItems_tuple (prog := X.G.prog) (w := X.G.w) (A := X.A) (E := fun _ _ => False) (s := s) (Q := Out X f s fun v m' f' => m' = m ∧ P (v.map er) f') hA ht fun h' he => by
    have kk : ∀ b o, s.heap.get? b = some o → h'.get? b = some o := fun b o e => he b o (Nat.ne_of_lt (Heap.lt_size e)) e
    exact ⟨Sm.rfl, m, f, R.grow kk, Kept.grow kk, rfl, h⟩
  simpa using this
theorem AsT.tup {elts : List Expr} {k : Nat} {pos : Pos} {T : Addr} {vs : List Value} (hA : X.A.handled = none) (hT : f T = some (.tup vs)) (hl : elts.length = vs.length) (h : AsL X m f elts vs P)
    (h1 : (assignEach elts X.env).findIdx? (·.1) = none := by rfl) (h2 : (assignEach elts X.env).length = elts.length := by rfl) : AsT X m f (.Tuple elts k pos) (.ref T) P := fun u e s R => by
  cases er_ref e
  show wpAny _ _ (do standAt pos; unpack (.ref T) (assignEach elts X.env)) _ _ s
  refine wpAny_bind (wpAny_standAt ?_)
  unfold unpack
  rw [h1, h2]
  exact wpAny_bind (wpAny_holding (TrL.use (unpack_ (P := fun ws f' => ws = vs ∧ f' = f) hA hT hl ⟨rfl, rfl⟩) R fun us _ f' sm k R' ⟨e, e'⟩ => by subst e'; exact Tr.outs (h us e) R' sm k))
end
section
variable {X : Cx} {m : Loc} {f : Fh} {P : Flow → Loc → Fh → Prop}
theorem St1.tup {elts : List Expr} {k : Nat} {tp pos : Pos} {e : Expr} (h : Ex X m f e fun v f₁ => AsT X m f₁ (.Tuple elts k tp) v fun m' f' => P .next m' f')
    (hs : swapsWithSole [.Tuple elts k tp] e pos.line X.env = pure false := by rfl) (hw : swappedStores [.Tuple elts k tp] e X.env = pure none := by rfl) : St1 X m f (.Assign [.Tuple elts k tp] e pos) P := fun _ R =>
  Assign_Tuple (h.use R fun v _ _ sm k R h => Tr.then (h v rfl) R fun _ _ _ _ sm' k' R p => Out.from (sm.trans sm') (k.trans k') (Out.here R p)) hs hw
/-- x, y = (.., ..): the stores come in the other order -/
theorem St1.tupS {elts : List Expr} {k : Nat} {tp pos : Pos} {e : Expr} {x y : PySem.Str} (hA : X.A.handled = none) (h : Ex X m f e fun v f₁ => ∃ T a b, v = .ref T ∧ f₁ T = some (.tup [a, b]) ∧ P .next (mset (mset m y b) x a) f₁)
    (hs : swapsWithSole [.Tuple elts k tp] e pos.line X.env = pure false := by rfl) (hw : swappedStores [.Tuple elts k tp] e X.env = pure (some [x, y]) := by rfl) (hx : X.env.kindOf x = some .local := by rfl) (hy : X.env.kindOf y = some .local := by rfl)
    (hk : X.env.scope.kind = .function := by rfl) : St1 X m f (.Assign [.Tuple elts k tp] e pos) P := fun _ R =>
  Assign_Tuple_swapped (h.use R fun v _ _ sm k R ⟨T, a, b, e, hT, p⟩ => by
    cases er_ref e
    refine TrL.use (unpack_ (P := fun ws f' => ws = [a, b] ∧ f' = _) hA hT rfl ⟨rfl, rfl⟩) R fun us _ f' sm' k' R' ⟨e, e'⟩ => ?_
    subst e'
    obtain ⟨u, v, rfl, rfl, rfl⟩ := map2 e
    show wpAny _ _ (do holding [u] (bindName X.env y v); assignInOrder [fun v => bindName X.env x v] [u]) _ _ _
    obtain ⟨w, n, ew⟩ := R'.ns
    refine wpAny_bind (wpAny_holding (bindName_ (wpAny_storeName_local hy n (fun h₁ n₁ k₁ => ?_) (by rw [hk]; rfl))))
    have R₁ := R'.store ew n₁ k₁
    obtain ⟨w', n', ew'⟩ := R₁.ns
    show wpAny _ _ (do holding [] (bindName X.env x u); assignInOrder [] []) _ _ _
    refine wpAny_bind (wpAny_holding (bindName_ (wpAny_storeName_local hx n' (fun h₂ n₂ k₂ => ?_) (by rw [hk]; rfl))))
    refine wpAny_pure ⟨(sm.trans sm').trans ⟨rfl, rfl, rfl⟩, _, _, R₁.store ew' n₂ k₂, (k.trans k').trans ((Kept.store k₁).trans (Kept.store k₂)), p⟩) hs hw
theorem St1.nameC {x : PySem.Str} {px pos : Pos} {e : Expr} {c : Addr} (h : Ex X m f e fun v f₁ => ∃ v₀, f₁ c = some (.cell v₀) ∧ P .next m (fset f₁ c (.cell (some v)))) (hc : X.env.cells.lookup x = some c) (hl : X.env.kindOf x = some .cell := by rfl) (hk : X.env.scope.kind = .function := by rfl)
    (hs : swapsWith e (some (.Name x px)) pos.line X.env = pure false := by rfl) : St1 X m f (.Assign [.Name x px] e pos) P := fun _ R =>
  wpAny_Assign_Name (h.use R fun v _ _ sm k R ⟨v₀, hv, p⟩ => by
    obtain ⟨o, u, g, d, e⟩ := R.holds _ _ hv
    refine wpAny_storeName_cell hk hl hc ⟨o, g, d⟩ fun h' ⟨o', g', d'⟩ k' => Out.from sm k ⟨Sm.rfl, m, _, R.upd (c' := .cell (some (er v))) hv k'.extBut ⟨o', _, g', d', rfl⟩, Kept.upd hv k'.extBut, p⟩) hs
end

end Mine

namespace Mine
-- Fw17
set_option maxRecDepth 100000
def fdel (f : Fh) (a : Addr) : Fh := fun b => if b = a then none else f b
theorem fdel_self {f : Fh} {a : Addr} : fdel f a a = none := if_pos rfl
theorem fdel_ne {f : Fh} {a b : Addr} (h : b ≠ a) : fdel f a b = f b := if_neg h
section
variable {G : Gl} {L : Addr} {m : Loc} {f : Fh} {hh h' : Heap}
theorem RelF.del {a : Addr} (R : RelF G L m f hh) : RelF G L m (fdel f a) hh := by
  refine ⟨⟨fun b c e => ?_, R.base, fun b o e => ?_⟩, R.ns, ?_, R.locb⟩
  · by_cases q : b = a
    · subst q; rw [fdel_self] at e; cases e
    · rw [fdel_ne q] at e; exact R.holds b c e
  · by_cases q : b = a
    · subst q; exact fdel_self
    · rw [fdel_ne q]; exact R.off b o e
  · by_cases q : L = a
    · subst q; exact fdel_self
    · rw [fdel_ne q]; exact R.loc
theorem Kept.del {a : Addr} : Kept L f hh (fdel f a) hh := fun b o _ e g => ⟨g, by by_cases q : b = a; (subst q; exact fdel_self); (rw [fdel_ne q]; exact e)⟩
theorem RelF.hidL {wr : List Addr} (R : RelF G L m f hh) (hw : ∀ b ∈ wr, f b = none ∧ G.h₀.get? b = none ∧ b ≠ L) (k : ∀ b o, b ∉ wr → hh.get? b = some o → h'.get? b = some o) : RelF G L m f h' :=
  ⟨⟨fun a c e => (R.holds a c e).mono fun o => k a o (fun q => by rw [(hw a q).1] at e; cases e), fun a o e => k a o (fun q => by rw [(hw a q).2.1] at e; cases e) (R.base a o e), R.off⟩,
    let ⟨u, n, e⟩ := R.ns; ⟨u, n.at' fun o => k _ o fun q => (hw _ q).2.2 rfl, e⟩, R.loc, R.locb⟩
end
section
variable {X : Cx} {m : Loc} {f : Fh} {P : Flow → Loc → Fh → Prop}
theorem St1.forZip {x y : PySem.Str} {zp tp px py cp pos : Pos} {k : Nat} {e1 e2 : Expr} {b : List Stmt} (hG : X.G.Ok) (ok : BiOk X.G.K "zip" (.type "zip")) (hA : X.A.handled = none)
    (h : Ar X m f [e1, e2] fun vs f₁ => ∃ l1 l2 xs ys, ∃ inv : Nat → Loc → Fh → Prop, vs = [.ref l1, .ref l2] ∧ IsL f₁ l1 xs ∧ IsL f₁ l2 ys ∧ inv 0 m (fdel (fdel f₁ l1) l2) ∧
      (∀ i u v m₁ f₂ T, xs[i]? = some u → ys[i]? = some v → f₂ T = none → inv i m₁ f₂ → Ss X (mset (mset m₁ x u) y v) (fset f₂ T (.tup [u, v])) b fun fl m' f' => fl = .next ∧ inv (i + 1) m' f') ∧
      ∀ m' f', inv (min xs.length ys.length) m' f' → P .next m' f')
    (hx : X.env.kindOf x = some .local := by rfl) (hy : X.env.kindOf y = some .local := by rfl) (hz : X.env.kindOf "zip" = some .globalImplicit := by rfl) (hk : X.env.scope.kind = .function := by rfl)
    (hg : X.env.globals = mainGlobals := by rfl) (hb : X.env.builtins = builtinsNs := by rfl)
    (he : starEach [e1, e2] X.env = (false, eval e1 X.env) :: starEach [e2] X.env := by rfl) (hp : (backTo cp (starEach [e2] X.env)).any (·.1) = false := by rfl)
    (hs : ∀ v, foldedSetIterable (.Call (.Name "zip" zp) [e1, e2] [] cp) X.env v = pure v := by intro _; rfl) :
    St1 X m f (.For (.Tuple [.Name x px, .Name y py] k tp) (.Call (.Name "zip" zp) [e1, e2] [] cp) b [] pos) P := fun s R => by
  refine wpAny_For ?_ hs
  refine Call_ (Ex.use (Ex.builtin hG ok.no ok.yes (P := fun v f' => v = .type "zip" ∧ f' = f) ⟨rfl, rfl⟩ hk hz hg hb (by decide) (by decide)) R fun v s₁ f' sm k₁ R' ⟨e, e'⟩ => ?_)
  cases er_type e
  subst e'
  have h' := h cp
  rw [he] at h' ⊢
  refine callWith_of (P := X.G.K.In) (by show ((false || (backTo cp (starEach [e2] X.env)).any (·.1)) || false) = false; rw [hp]; rfl) keep_type (evalArgs_plain ?_)
  refine TrL.use h' R' fun us s₂ f₁ sm₂ k₂ R₂ ⟨l1, l2, xs, ys, inv, e, hl1, hl2, h0, turn, fin⟩ => ⟨hG.K.keeps R₂.base, ?_⟩
  obtain ⟨u, v, rfl, e1', e2'⟩ := map2 e
  cases er_ref e1'; cases er_ref e2'
  obtain ⟨us1, g1, ev1⟩ := R₂.isL hl1
  obtain ⟨us2, g2, ev2⟩ := R₂.isL hl2
  obtain ⟨o1, go1, _⟩ := id g1
  obtain ⟨o2, go2, _⟩ := id g2
  have a1 := Heap.lt_size go1
  have a2 := Heap.lt_size go2
  have hnone : ∀ j, s₂.heap.get? (s₂.heap.objs.size + j) = none := fun j => Heap.get?_none_of_le (Nat.le_add_right _ _)
  refine call_zip_2 g1 g2 fun H hz' hTI hTO hi1 hi2 hsz hkk => ?_
  have D := zipApart_new a1 a2
  have n0 := hnone 0
  have n1 := hnone 1
  have n2 := hnone 2
  have n3 := hnone 3
  have n4 := hnone 4
  rw [Nat.add_zero] at n0
  generalize s₂.heap.objs.size + 4 = z at *
  generalize s₂.heap.objs.size + 3 = TO at *
  generalize s₂.heap.objs.size + 2 = TI at *
  generalize s₂.heap.objs.size + 1 = i2 at *
  generalize s₂.heap.objs.size = i1 at *
  have W := WalksT.zip2 (prog := X.G.prog) (w := X.G.w) (A := X.A) hA z TI TO i1 i2 l1 l2 D us1.toArray us2.toArray
  have st0 : IsZip H z TI TO .none ∧ IsPair H TI (.ref i1) (.ref i2) ∧ (∃ a b, IsPair H TO a b) ∧ H.IsListIter i1 l1 0 ∧ H.IsListIter i2 l2 0 ∧ H.IsList l1 us1.toArray ∧ H.IsList l2 us2.toArray :=
    ⟨hz', hTI, ⟨_, _, hTO⟩, hi1, hi2, g1.at fun o e => hkk l1 o e, g2.at fun o e => hkk l2 o e⟩
  refine W.self 0 _ _ _ st0 ?_
  have hlen1 : us1.length = xs.length := map_len ev1
  have hlen2 : us2.length = ys.length := map_len ev2
  have hmin : min us1.toArray.size us2.toArray.size = min xs.length ys.length := by simp [hlen1, hlen2]
  rw [hmin] at W
  generalize hSt : (fun (i : Nat) (h : Heap) => IsZip h z TI TO .none ∧ IsPair h TI (.ref i1) (.ref i2) ∧ (∃ a b, IsPair h TO a b) ∧ h.IsListIter i1 l1 i ∧ h.IsListIter i2 l2 i ∧ h.IsList l1 us1.toArray ∧ h.IsList l2 us2.toArray) = St at W
  have st0' : St 0 H := by rw [← hSt]; exact st0
  have has : ∀ i h, St i h → ∀ b ∈ [z, TI, TO, i1, i2, l1, l2], ∃ o, h.get? b = some o := by
    rw [← hSt]
    rintro i h ⟨c1, c2, ⟨_, _, c3⟩, ⟨_, c4, _⟩, ⟨_, c5, _⟩, ⟨_, c6, _⟩, ⟨_, c7, _⟩⟩ b hb
    simp only [List.mem_cons, List.not_mem_nil, or_false] at hb
    rcases hb with rfl | rfl | rfl | rfl | rfl | rfl | rfl
    · exact ⟨_, c1⟩
    · exact ⟨_, c2⟩
    · exact ⟨_, c3⟩
    · exact ⟨_, c4⟩
    · exact ⟨_, c5⟩
    · exact ⟨_, c6⟩
    · exact ⟨_, c7⟩
  have nL : ∀ b, s₂.heap.get? b = none → b ≠ X.L := fun b q e => by obtain ⟨o, g⟩ := R₂.lsome; rw [e, g] at q; cases q
  have L1 : l1 ≠ X.L := by rintro rfl; obtain ⟨c, q⟩ := hl1.ex; rw [R₂.loc] at q; cases q
  have L2 : l2 ≠ X.L := by rintro rfl; obtain ⟨c, q⟩ := hl2.ex; rw [R₂.loc] at q; cases q
  have B1 : X.G.h₀.get? l1 = none := by
    cases q : X.G.h₀.get? l1 with
    | none => rfl
    | some o => obtain ⟨c, q'⟩ := hl1.ex; rw [R₂.off _ _ q] at q'; cases q'
  have B2 : X.G.h₀.get? l2 = none := by
    cases q : X.G.h₀.get? l2 with
    | none => rfl
    | some o => obtain ⟨c, q'⟩ := hl2.ex; rw [R₂.off _ _ q] at q'; cases q'
  have fdn : ∀ b, f₁ b = none → fdel (fdel f₁ l1) l2 b = none := fun b q => by
    by_cases q1 : b = l2
    · subst q1; exact fdel_self
    · rw [fdel_ne q1]
      by_cases q2 : b = l1
      · subst q2; exact fdel_self
      · rw [fdel_ne q2]; exact q
  have hid0 : ∀ b ∈ [z, TI, TO, i1, i2, l1, l2], fdel (fdel f₁ l1) l2 b = none ∧ X.G.h₀.get? b = none ∧ b ≠ X.L := fun b hb => by
    simp only [List.mem_cons, List.not_mem_nil, or_false] at hb
    rcases hb with rfl | rfl | rfl | rfl | rfl | rfl | rfl
    · exact ⟨fdn _ (R₂.toRelH.fresh n4), R₂.toRelH.nob n4, nL _ n4⟩
    · exact ⟨fdn _ (R₂.toRelH.fresh n2), R₂.toRelH.nob n2, nL _ n2⟩
    · exact ⟨fdn _ (R₂.toRelH.fresh n3), R₂.toRelH.nob n3, nL _ n3⟩
    · exact ⟨fdn _ (R₂.toRelH.fresh n0), R₂.toRelH.nob n0, nL _ n0⟩
    · exact ⟨fdn _ (R₂.toRelH.fresh n1), R₂.toRelH.nob n1, nL _ n1⟩
    · refine ⟨?_, B1, L1⟩
      by_cases q1 : b = l2
      · subst q1; exact fdel_self
      · rw [fdel_ne q1]; exact fdel_self
    · exact ⟨fdel_self, B2, L2⟩
  have R₃ : RelF X.G X.L m (fdel (fdel f₁ l1) l2) H := (R₂.grow hkk).del.del
  have K₃ : Kept X.L f' s.heap (fdel (fdel f₁ l1) l2) H := (k₁.trans k₂).trans ((Kept.grow hkk).trans (Kept.del.trans Kept.del))
  have off : ∀ a o, a ≠ X.L → f' a = none → s.heap.get? a = some o → a ∉ [z, TO, i1, i2] := fun a o q e w hm => by
    have g := ((k₁.trans k₂) a o q e w).1
    simp only [List.mem_cons, List.not_mem_nil, or_false] at hm
    rcases hm with rfl | rfl | rfl | rfl
    · rw [n4] at g; cases g
    · rw [n3] at g; cases g
    · rw [n0] at g; cases g
    · rw [n1] at g; cases g
  generalize hN : min xs.length ys.length = N at *
  generalize hfp : ([z, TI, TO, i1, i2, l1, l2] : List Addr) = fp at *
  generalize hwr : ([z, TO, i1, i2] : List Addr) = wr at *
  clear hSt hz' hTI hTO hi1 hi2 D st0
  refine codeAny_forLoop_any (fun n s' => ∃ i m' f₂, n = N + 1 - i ∧ i ≤ N ∧ Sm s s' ∧ Kept X.L f' s.heap f₂ s'.heap ∧ RelF X.G X.L m' f₂ s'.heap ∧ St i s'.heap ∧ (∀ b ∈ fp, f₂ b = none ∧ X.G.h₀.get? b = none ∧ b ≠ X.L) ∧ inv i m' f₂) ?_ (N + 1)
    ⟨0, m, _, rfl, Nat.zero_le _, (sm.trans sm₂).trans Sm.rfl, K₃, R₃, st0', hid0, h0⟩
  rintro n s' ⟨i, m', f₂, rfl, hi, sm', k', R', st, hid, hv⟩
  have kW : ∀ h₂ : Heap, (∀ b o, b ∉ wr → s'.heap.get? b = some o → h₂.get? b = some o) → Kept X.L f' s.heap f₂ h₂ := fun h₂ k₂ a o q e w => ⟨k₂ a o (off a o q e w) (k' a o q e w).1, (k' a o q e w).2⟩
  have hidw : ∀ b ∈ wr, f₂ b = none ∧ X.G.h₀.get? b = none ∧ b ≠ X.L := fun b hb => hid b (W.sub b hb)
  by_cases hlt : i < N
  · refine W.item i s' _ _ hlt st fun T vals h₂ tk hPt hT hTt hmid hkk₂ => ?_
    obtain ⟨u, v, hu, hv', rfl⟩ := hPt
    refine W.go _ _ _ i T { s' with heap := h₂, toks := tk } _ _ hmid fun h₃ st₃ hkk₃ => ?_
    have hTw := W.apart _ _ _ hmid
    have hnT : s'.heap.get? T = none := Heap.get?_none_of_le hT
    have hkk' : ∀ b o, b ∉ wr → s'.heap.get? b = some o → h₃.get? b = some o := fun b o n g => hkk₃ b o n (hkk₂ b o n g)
    have R₄ : RelF X.G X.L m' f₂ h₃ := R'.hidL hidw hkk'
    have hTt' : IsTup h₃ T #[u, v] := by obtain ⟨o, g, r⟩ := hTt; exact ⟨o, hkk₃ T o hTw g, r⟩
    have fT : f₂ T = none := R'.toRelH.fresh hnT
    have TL : T ≠ X.L := by rintro rfl; obtain ⟨o, g⟩ := R'.lsome; rw [hnT] at g; cases g
    have R₅ : RelF X.G X.L m' (fset f₂ T (.tup [er u, er v])) h₃ := ⟨R₄.toRelH.show (R'.toRelH.nob hnT) ⟨[u, v], hTt', rfl⟩, R₄.ns, by rw [fset_ne TL.symm]; exact R₄.loc, R₄.locb⟩
    have K₅ : Kept X.L f' s.heap (fset f₂ T (.tup [er u, er v])) h₃ := fun a o q e w => ⟨(kW h₃ hkk' a o q e w).1, by
      rw [fset_ne (by rintro rfl; have := (k' a o q e w).1; rw [hnT] at this; cases this)]; exact (k' a o q e w).2⟩
    have hxu : xs[i]? = some (er u) := by rw [← ev1, List.getElem?_map]; rw [List.getElem?_toArray] at hu; rw [hu]; rfl
    have hyv : ys[i]? = some (er v) := by rw [← ev2, List.getElem?_map]; rw [List.getElem?_toArray] at hv'; rw [hv']; rfl
    refine Tr.then (s := { s' with heap := h₃, toks := tk }) (AsT.tup (X := X) (elts := [.Name x px, .Name y py]) (k := k) (pos := tp) (vs := [er u, er v]) (P := fun m₂ f₃ => m₂ = mset (mset m' x (er u)) y (er v) ∧ f₃ = fset f₂ T (.tup [er u, er v])) hA fset_self rfl
      (AsL.cons (AsT.name (AsL.cons (AsT.name (AsL.nil ⟨rfl, rfl⟩) hy hk)) hx hk)) rfl rfl (.ref T) rfl) R₅ fun _ s₄ m₄ f₄ sm₄ k₄ R₆ ⟨em, ef⟩ => ?_
    subst em
    refine Tr.then (turn i _ _ m' f₂ T hxu hyv fT hv) (ef ▸ R₆) fun fl s₅ m₅ f₅ sm₅ k₅ R₇ ⟨e, q⟩ => ?_
    cases fl <;> cases e
    have TnF : T ∉ fp := fun hm => by
      obtain ⟨o, g⟩ := has _ _ st T hm
      rw [hnT] at g; cases g
    have K₄ := k₄.trans (ef ▸ k₅)
    have hidT : ∀ b ∈ fp, fset f₂ T (.tup [er u, er v]) b = none := fun b hb => by rw [fset_ne (by rintro rfl; exact TnF hb)]; exact (hid b hb).1
    refine ⟨N + 1 - (i + 1), by omega, i + 1, m₅, f₅, rfl, hlt, sm'.trans (Sm.trans Sm.rfl (sm₄.trans sm₅)), K₅.trans K₄, R₇, W.frame _ _ _ st₃ fun b hb o g => (K₄ b o (hid b hb).2.2 (hidT b hb) g).1, fun b hb => ?_, q⟩
    obtain ⟨o, g⟩ := has _ _ st₃ b hb
    exact ⟨(K₄ b o (hid b hb).2.2 (hidT b hb) g).2, (hid b hb).2⟩
  · have hin : i = N := by omega
    subst hin
    refine W.done s' _ _ st fun h₂ tk hkk₂ => wpAny_execs_nil ?_
    exact ⟨sm'.trans Sm.rfl, m', f₂, R'.hidL hidw hkk₂, kW h₂ hkk₂, fin _ _ hv⟩
end

end Mine

namespace Mine
-- Fw18
set_option maxRecDepth 100000
theorem bindL_er (k : PySem.Str → Option NameKind) : ∀ (bs : List (PySem.Str × Value)) (m : PySem.Str → Option Value) (x : PySem.Str), (bindL k bs m x).map er = bindL k (bs.map fun y => (y.1, er y.2)) (fun y => (m y).map er) x
  | [], _, _ => rfl
  | (n, v) :: r, m, x => by
    show (bindL k r (if k n = some .local then fun y => if y = n then some v else m y else m) x).map er = bindL k (r.map fun y => (y.1, er y.2)) (if k n = some .local then fun y => if y = n then some (er v) else (m y).map er else fun y => (m y).map er) x
    rw [bindL_er k r]
    congr 1
    split
    · funext y; by_cases q : y = n <;> simp [q]
    · rfl
theorem bindC_er (k : PySem.Str → Option NameKind) : ∀ (bs : List (PySem.Str × Value)) (m : PySem.Str → Option Value) (x : PySem.Str), (bindC k bs m x).map er = bindC k (bs.map fun y => (y.1, er y.2)) (fun y => (m y).map er) x
  | [], _, _ => rfl
  | (n, v) :: r, m, x => by
    show (bindC k r (if k n = some .local then m else fun y => if y = n then some v else m y) x).map er = bindC k (r.map fun y => (y.1, er y.2)) (if k n = some .local then fun y => (m y).map er else fun y => if y = n then some (er v) else (m y).map er) x
    rw [bindC_er k r]
    congr 1
    split
    · rfl
    · funext y; by_cases q : y = n <;> simp [q]
section
variable {G : Gl} {A : Around} {f : Fh} {P : Value → Fh → Prop}
theorem Cd.enterC {name qual : PySem.Str} {params : Arguments} {body : List Stmt} {scope : Scope} {dV kV doc pm cdv oc : Value} {an od : Option Addr} {osl : Array (Option Value)} {g : Addr} {vs : List Value} {eb : List (PySem.Str × Value)}
    {n₁ n₂ : PySem.Str} {c₁ c₂ : Option Value} {ml : Loc}
    (hG : G.Ok) (ho : G.K.lookup g = some ⟨oc, od, .func (fnOf name qual params body scope dV kV doc pm an cdv .none), osl⟩) (hcd : codeIn G.K cdv qual = true) (hroom : A.depth < recursionLimit)
    (hbind : ∀ us, us.map er = vs → ∃ binds, (∀ s, G.K.In s.heap → BindsTo s (fnOf name qual params body scope dV kV doc pm an cdv .none) ⟨us, []⟩ binds) ∧ binds.map (fun y => (y.1, er y.2)) = eb)
    (hkind : (eb.all fun y => scope.names.lookup y.1 == some .local || scope.names.lookup y.1 == some .cell) = true)
    (hcs : ∀ L, cellsFrom (L + 1) scope.names [] = [(n₂, L + 1 + 1), (n₁, L + 1)]) (hne : n₁ ≠ n₂)
    (hml : ∀ L x, bindL (envOfC qual scope L g cdv).kindOf eb (fun _ => none) x = ml x)
    (hc₁ : ∀ L, bindC (envOfC qual scope L g cdv).kindOf eb (fun _ => none) n₁ = c₁) (hc₂ : ∀ L, bindC (envOfC qual scope L g cdv).kindOf eb (fun _ => none) n₂ = c₂)
    (h : ∀ L, f L = none → f (L + 1) = none → f (L + 1 + 1) = none → Ss ⟨G, A.deeper (envOfC qual scope L g cdv), envOfC qual scope L g cdv⟩ ml (fset (fset f (L + 1) (.cell c₁)) (L + 1 + 1) (.cell c₂)) body fun fl _ f' => P (retOf fl) f')
    (hco : scope.isCoroutine = false := by rfl) (hgen : scope.isGenerator = false := by rfl) (hk : scope.kind = .function := by rfl) : Cd G A f g vs P := fun us e s R => by
  obtain ⟨binds, hb, rfl⟩ := hbind us e
  have X : G.K.In s.heap := hG.K.keeps R.base
  obtain ⟨_, _, _, _, T⟩ := hG.T
  have hkind' : (binds.all fun y => scope.names.lookup y.1 == some .local || scope.names.lookup y.1 == some .cell) = true := by
    rw [List.all_map] at hkind; exact hkind
  refine codeAny_call_function (fd := fnOf name qual params body scope dV kV doc pm an cdv .none) hroom (X _ _ ho) rfl hco hgen rfl (codeRec_of X hcd) ((hb s X) _ _ _ _ ?_)
  refine wpAny_newFunctionEnv_cells hk (kindsX hkind' _) fun env' he s' x => ?_
  subst he
  refine ⟨(T.nolimit.keeps R.base).keeps x.toInCall.keep, codeAny_func ?_⟩
  obtain ⟨h₁, tk, rfl, _⟩ := x.done
  have hk₁ := x.toInCall.keep
  have hns := x.toInCall.ns
  have e1 := x.cell n₁ (s.heap.objs.size + 1) (by show List.lookup n₁ (cellsFrom (s.heap.objs.size + 1) scope.names []) = _; rw [hcs]; rw [List.lookup_cons, beq_eq_false_iff_ne.mpr hne]; simp)
  have e2 := x.cell n₂ (s.heap.objs.size + 1 + 1) (by show List.lookup n₂ (cellsFrom (s.heap.objs.size + 1) scope.names []) = _; rw [hcs]; simp)
  have ev : newEnv scope s.heap.objs.size mainGlobals (cellsFrom (s.heap.objs.size + 1) scope.names []) (qual ++ ".<locals>.") (some g) cdv none builtinsNs = envOfC qual scope s.heap.objs.size g cdv := rfl
  have m0 := hml s.heap.objs.size
  have d1 := hc₁ s.heap.objs.size
  have d2 := hc₂ s.heap.objs.size
  have hn : ∀ j, s.heap.get? (s.heap.objs.size + j) = none := fun j => Heap.get?_none_of_le (Nat.le_add_right _ _)
  have n0 := hn 0
  have nn1 := hn 1
  have nn2 := hn 2
  rw [Nat.add_zero] at n0
  have hL := h s.heap.objs.size (R.fresh n0) (R.fresh nn1) (R.fresh nn2)
  have hne1 : s.heap.objs.size + 1 ≠ s.heap.objs.size + 1 + 1 := Nat.ne_of_lt (Nat.lt_succ_self _)
  have hLn1 : s.heap.objs.size ≠ s.heap.objs.size + 1 := Nat.ne_of_lt (Nat.lt_succ_self _)
  have hLn2 : s.heap.objs.size ≠ s.heap.objs.size + 1 + 1 := Nat.ne_of_lt (Nat.lt_succ_of_lt (Nat.lt_succ_self _))
  have RF : RelF G s.heap.objs.size ml (fset (fset f (s.heap.objs.size + 1) (.cell c₁)) (s.heap.objs.size + 1 + 1) (.cell c₂)) h₁ := by
    refine ⟨((R.grow hk₁).show (c := .cell c₁) (R.nob nn1) ?_).show (c := .cell c₂) (R.nob nn2) ?_, ⟨_, hns, fun x => ?_⟩, ?_, R.nob n0⟩
    · obtain ⟨o, g', d⟩ := e1
      refine ⟨o, _, g', d, ?_⟩
      rw [bindC_er]; exact d1
    · obtain ⟨o, g', d⟩ := e2
      refine ⟨o, _, g', d, ?_⟩
      rw [bindC_er]; exact d2
    · rw [bindL_er]; exact m0 x
    · rw [fset_ne hLn2, fset_ne hLn1]; exact R.fresh n0
  refine Tr.run (X := ⟨G, A.deeper (envOfC qual scope s.heap.objs.size g cdv), envOfC qual scope s.heap.objs.size g cdv⟩) hL (s := { s with heap := h₁, toks := tk }) RF fun fl s' o => ?_
  obtain ⟨sm, m', f', R', k, p⟩ := o
  refine ⟨sm, retOf fl, f', ?_, R'.toRelH, fun a o e g => ?_, ?_⟩
  · cases fl <;> rfl
  · refine k a o (fun q => by rw [q] at g; exact absurd (n0.symm.trans g) (by simp)) ?_ (hk₁ _ _ g)
    rw [fset_ne (by rintro rfl; rw [nn2] at g; cases g), fset_ne (by rintro rfl; rw [nn1] at g; cases g)]; exact e
  · cases fl <;> exact p
end

end Mine

namespace Mine
-- W0
set_option maxRecDepth 100000
set_option maxHeartbeats 2000000
theorem fillit : (PySem.Challenge.rw_nu0162_01 = PySem.Challenge.rw_nu0162_01) ∧ (∀ P, KK P = KK P) := by
  k_fill
  exact ⟨rfl, fun _ => rfl⟩
noncomputable abbrev GG (w : World) (h₀ : Heap) : Gl := ⟨PySem.Challenge.rw_nu0162_01.row.prog, w, h₀, KK w.params⟩
structure Inf where
  glyph : Int
  cluster : Int
  mask : Int
  un : Bool
  xa : Int
  ya : Int
  xo : Int
  yo : Int
  parent : Int
  bond : PySem.Str
abbrev ent (P : Params) (n : PySem.Str) (v : Value) : DictEntry := ⟨PyData.keyHash P n, sv n, v⟩
abbrev infoEs (P : Params) (x : Inf) : List DictEntry :=
  [ent P "code" (iv 65), ent P "glyph" (iv x.glyph), ent P "cluster" (iv x.cluster), ent P "mask" (iv x.mask), ent P "is_unsafe" (.bool x.un), ent P "lig_id" (iv 0), ent P "lig_part" (iv 0), ent P "lig_count" (iv 0), ent P "kind" (sv ""),
   ent P "x_advance" (iv x.xa), ent P "y_advance" (iv x.ya), ent P "x_offset" (iv x.xo), ent P "y_offset" (iv x.yo), ent P "parent" (iv x.parent), ent P "bond" (sv x.bond)]
def IsInfo (w : World) (f : Fh) (a d : Addr) (x : Inf) : Prop := f a = some (.inst 52 d) ∧ f d = some (.dict (infoEs w.params x))

section
variable {P : Params}
theorem at_info (n : PySem.Str) (h : n ∈ (["glyph", "cluster", "mask", "is_unsafe", "x_advance", "y_advance", "x_offset", "y_offset", "parent", "bond"] : List PySem.Str)) : AttrOk (KK P) 52 n := by
  simp only [List.mem_cons, List.not_mem_nil, or_false] at h
  rcases h with rfl | rfl | rfl | rfl | rfl | rfl | rfl | rfl | rfl | rfl <;> exact ⟨by k_is, by k_is, _, by k_is, by k_is⟩
end
theorem so_info {P : Params} (n : PySem.Str) (h : n ∈ (["code", "glyph", "cluster", "mask", "is_unsafe", "lig_id", "lig_part", "lig_count", "kind", "x_advance", "y_advance", "x_offset", "y_offset", "parent", "bond"] : List PySem.Str)) : SetOk (KK P) 52 n := by
  simp only [List.mem_cons, List.not_mem_nil, or_false] at h
  rcases h with rfl | rfl | rfl | rfl | rfl | rfl | rfl | rfl | rfl | rfl | rfl | rfl | rfl | rfl | rfl <;> exact ⟨by k_is, by k_is, by k_is, by k_is⟩

section
variable {X : Cx} {m : Loc} {f : Fh} {P : Value → Fh → Prop}
/-- an attribute of an Info -/
theorem Ex.info {w : World} {h₀ : Heap} {A : Around} {env : Env} {o : Expr} {n : PySem.Str} {pos : Pos} (hG : (GG w h₀).Ok)
    (h : Ex ⟨GG w h₀, A, env⟩ m f o fun v f₁ => ∃ a d x u, v = .ref a ∧ IsInfo w f₁ a d x ∧ n ∈ (["glyph", "cluster", "mask", "is_unsafe", "x_advance", "y_advance", "x_offset", "y_offset", "parent", "bond"] : List PySem.Str) ∧ getL n (infoEs w.params x) = some (some u) ∧ handedIn u = true ∧ P u f₁)
    (he : eval (.Attribute o n pos) env = (do let v ← eval o env; standAt pos.atName; let r ← holding [v] (getAttr v n true); letTemporaryGo o v r; pure r) := by rfl) : Ex ⟨GG w h₀, A, env⟩ m f (.Attribute o n pos) P :=
  Ex.attr hG (h.mono fun v f₁ ⟨a, d, x, u, e, i, hn, hl, hh, p⟩ => ⟨a, 52, d, _, u, e, at_info n hn, i.1, i.2, hl, hh, p⟩) he
theorem St1.info {w : World} {h₀ : Heap} {A : Around} {env : Env} {o e : Expr} {n : PySem.Str} {ap pos : Pos} {P : Flow → Loc → Fh → Prop} (hG : (GG w h₀).Ok)
    (h : Ex ⟨GG w h₀, A, env⟩ m f e fun v f₁ => Ex ⟨GG w h₀, A, env⟩ m f₁ o fun u f₂ => ∃ a d x y, u = .ref a ∧ IsInfo w f₂ a d x ∧ n ∈ (["code", "glyph", "cluster", "mask", "is_unsafe", "lig_id", "lig_part", "lig_count", "kind", "x_advance", "y_advance", "x_offset", "y_offset", "parent", "bond"] : List PySem.Str) ∧
      (getL n (infoEs w.params x)).isSome = true ∧ putL n (PyData.keyHash w.params n) (sv n) v (infoEs w.params x) = infoEs w.params y ∧ P .next m (fset f₂ d (.dict (infoEs w.params y))))
    (hs : swapsWith e (some (.Attribute o n ap)) pos.line env = pure false := by rfl) : St1 ⟨GG w h₀, A, env⟩ m f (.Assign [.Attribute o n ap] e pos) P :=
  St1.attr hG (h.mono fun v f₁ h => h.mono fun u f₂ ⟨a, d, x, y, e, i, hn, hl, hp, p⟩ => ⟨a, 52, d, _, e, so_info n hn, i.1, i.2, hl, by simp, by rw [hp]; exact p⟩) hs
end

theorem Ss.info {w : World} {h₀ : Heap} {A : Around} {env : Env} {m : Loc} {f : Fh} {o e : Expr} {n : PySem.Str} {ap pos : Pos} {rest : List Stmt} {P : Flow → Loc → Fh → Prop} (hG : (GG w h₀).Ok)
    (h : Ex ⟨GG w h₀, A, env⟩ m f e fun v f₁ => Ex ⟨GG w h₀, A, env⟩ m f₁ o fun u f₂ => ∃ a d x y, u = .ref a ∧ IsInfo w f₂ a d x ∧ n ∈ (["code", "glyph", "cluster", "mask", "is_unsafe", "lig_id", "lig_part", "lig_count", "kind", "x_advance", "y_advance", "x_offset", "y_offset", "parent", "bond"] : List PySem.Str) ∧
      (getL n (infoEs w.params x)).isSome = true ∧ putL n (PyData.keyHash w.params n) (sv n) v (infoEs w.params x) = infoEs w.params y ∧ Ss ⟨GG w h₀, A, env⟩ m (fset f₂ d (.dict (infoEs w.params y))) rest P)
    (hs : swapsWith e (some (.Attribute o n ap)) pos.line env = pure false := by rfl) : Ss ⟨GG w h₀, A, env⟩ m f (.Assign [.Attribute o n ap] e pos :: rest) P := Ss.cons (St1.info hG h hs)
theorem IsInfo.self {w : World} {f : Fh} {a d : Addr} {x y : Inf} (i : IsInfo w f a d x) : IsInfo w (fset f d (.dict (infoEs w.params y))) a d y :=
  ⟨by rw [fset_ne (by rintro rfl; have := i.1.symm.trans i.2; cases this)]; exact i.1, fset_self⟩
theorem IsInfo.upd {w : World} {f : Fh} {a d a' d' : Addr} {x x' y : Inf} (i : IsInfo w f a' d' x') (j : IsInfo w f a d x) (h : d' ≠ d) : IsInfo w (fset f d (.dict (infoEs w.params y))) a' d' x' :=
  ⟨by rw [fset_ne (by rintro rfl; have := i.1.symm.trans j.2; cases this)]; exact i.1, by rw [fset_ne h]; exact i.2⟩
def Inf.s_xa (x : Inf) (i : Int) : Inf := { x with xa := i }
def Inf.s_xo (x : Inf) (i : Int) : Inf := { x with xo := i }
def Inf.s_parent (x : Inf) (i : Int) : Inf := { x with parent := i }
def Inf.s_un (x : Inf) (i : Bool) : Inf := { x with un := i }
theorem Ss.set_xa {w : World} {h₀ : Heap} {A : Around} {env : Env} {m : Loc} {f : Fh} {o e : Expr} {ap pos : Pos} {rest : List Stmt} {P : Flow → Loc → Fh → Prop} (hG : (GG w h₀).Ok)
    (h : Ex ⟨GG w h₀, A, env⟩ m f e fun v f₁ => Ex ⟨GG w h₀, A, env⟩ m f₁ o fun u f₂ => ∃ a d x i, u = .ref a ∧ v = iv i ∧ IsInfo w f₂ a d x ∧ Ss ⟨GG w h₀, A, env⟩ m (fset f₂ d (.dict (infoEs w.params (x.s_xa i)))) rest P)
    (hs : swapsWith e (some (.Attribute o "x_advance" ap)) pos.line env = pure false := by rfl) : Ss ⟨GG w h₀, A, env⟩ m f (.Assign [.Attribute o "x_advance" ap] e pos :: rest) P :=
  Ss.info hG (h.mono fun v f₁ h => h.mono fun u f₂ ⟨a, d, x, i, e, e', j, p⟩ => ⟨a, d, x, _, e, j, by simp, rfl, by rw [e']; rfl, p⟩) hs
theorem Ss.set_xo {w : World} {h₀ : Heap} {A : Around} {env : Env} {m : Loc} {f : Fh} {o e : Expr} {ap pos : Pos} {rest : List Stmt} {P : Flow → Loc → Fh → Prop} (hG : (GG w h₀).Ok)
    (h : Ex ⟨GG w h₀, A, env⟩ m f e fun v f₁ => Ex ⟨GG w h₀, A, env⟩ m f₁ o fun u f₂ => ∃ a d x i, u = .ref a ∧ v = iv i ∧ IsInfo w f₂ a d x ∧ Ss ⟨GG w h₀, A, env⟩ m (fset f₂ d (.dict (infoEs w.params (x.s_xo i)))) rest P)
    (hs : swapsWith e (some (.Attribute o "x_offset" ap)) pos.line env = pure false := by rfl) : Ss ⟨GG w h₀, A, env⟩ m f (.Assign [.Attribute o "x_offset" ap] e pos :: rest) P :=
  Ss.info hG (h.mono fun v f₁ h => h.mono fun u f₂ ⟨a, d, x, i, e, e', j, p⟩ => ⟨a, d, x, _, e, j, by simp, rfl, by rw [e']; rfl, p⟩) hs
theorem Ss.set_parent {w : World} {h₀ : Heap} {A : Around} {env : Env} {m : Loc} {f : Fh} {o e : Expr} {ap pos : Pos} {rest : List Stmt} {P : Flow → Loc → Fh → Prop} (hG : (GG w h₀).Ok)
    (h : Ex ⟨GG w h₀, A, env⟩ m f e fun v f₁ => Ex ⟨GG w h₀, A, env⟩ m f₁ o fun u f₂ => ∃ a d x i, u = .ref a ∧ v = iv i ∧ IsInfo w f₂ a d x ∧ Ss ⟨GG w h₀, A, env⟩ m (fset f₂ d (.dict (infoEs w.params (x.s_parent i)))) rest P)
    (hs : swapsWith e (some (.Attribute o "parent" ap)) pos.line env = pure false := by rfl) : Ss ⟨GG w h₀, A, env⟩ m f (.Assign [.Attribute o "parent" ap] e pos :: rest) P :=
  Ss.info hG (h.mono fun v f₁ h => h.mono fun u f₂ ⟨a, d, x, i, e, e', j, p⟩ => ⟨a, d, x, _, e, j, by simp, rfl, by rw [e']; rfl, p⟩) hs
theorem Ss.set_un {w : World} {h₀ : Heap} {A : Around} {env : Env} {m : Loc} {f : Fh} {o e : Expr} {ap pos : Pos} {rest : List Stmt} {P : Flow → Loc → Fh → Prop} (hG : (GG w h₀).Ok)
    (h : Ex ⟨GG w h₀, A, env⟩ m f e fun v f₁ => Ex ⟨GG w h₀, A, env⟩ m f₁ o fun u f₂ => ∃ a d x i, u = .ref a ∧ v = .bool i ∧ IsInfo w f₂ a d x ∧ Ss ⟨GG w h₀, A, env⟩ m (fset f₂ d (.dict (infoEs w.params (x.s_un i)))) rest P)
    (hs : swapsWith e (some (.Attribute o "is_unsafe" ap)) pos.line env = pure false := by rfl) : Ss ⟨GG w h₀, A, env⟩ m f (.Assign [.Attribute o "is_unsafe" ap] e pos :: rest) P :=
  Ss.info hG (h.mono fun v f₁ h => h.mono fun u f₂ ⟨a, d, x, i, e, e', j, p⟩ => ⟨a, d, x, _, e, j, by simp, rfl, by rw [e']; rfl, p⟩) hs

/-- rows of infos: the address, its dict's, the data -/
abbrev Rw := List (Addr × Addr × Inf)
def Row (w : World) (f : Fh) (R : Rw) : Prop := (R.map (·.2.1)).Nodup ∧ ∀ r ∈ R, IsInfo w f r.1 r.2.1 r.2.2
abbrev refs (R : Rw) : List Value := R.map fun r => .ref r.1
def upd (g : Nat → Inf → Inf) (R : Rw) : Rw := R.mapIdx fun n r => (r.1, r.2.1, g n r.2.2)
def IsBuf (w : World) (f : Fh) (b bd rl : Addr) (back : Bool) : Prop := f b = some (.inst 98 bd) ∧ f bd = some (.dict [ent w.params "row" (.ref rl), ent w.params "is_backward" (.bool back), ent w.params "last_lig" (iv 0)])

end Mine

namespace Mine
-- R0
set_option maxRecDepth 100000
set_option maxHeartbeats 2000000
theorem fillit0 : (PySem.Challenge.rw_nu0162_01 = PySem.Challenge.rw_nu0162_01) ∧ (∀ P, KK P = KK P) := by
  k_fill
  exact ⟨rfl, fun _ => rfl⟩
/-- all that f holds, but at M, f' holds too -/
def Ext (M : List Addr) (f f' : Fh) : Prop := ∀ b c, f b = some c → b ∉ M → f' b = some c
theorem Ext.refl {M : List Addr} {f : Fh} : Ext M f f := fun _ _ e _ => e
theorem Ext.trans {M : List Addr} {f f' f'' : Fh} (a : Ext M f f') (b : Ext M f' f'') : Ext M f f'' := fun x c e n => b x c (a x c e n) n
theorem Ext.new {M : List Addr} {f : Fh} {a : Addr} {c : Cel} (h : f a = none) : Ext M f (fset f a c) := fun b c' e _ => by rw [fset_ne (by rintro rfl; rw [h] at e; cases e)]; exact e
theorem Ext.set {M : List Addr} {f : Fh} {a : Addr} {c : Cel} (h : a ∈ M) : Ext M f (fset f a c) := fun b c' e n => by rw [fset_ne (by rintro rfl; exact n h)]; exact e
theorem Ext.mono {M M' : List Addr} {f f' : Fh} (a : Ext M f f') (h : ∀ x ∈ M, x ∈ M') : Ext M' f f' := fun b c e n => a b c e fun q => n (h b q)
theorem Ext.isL {M : List Addr} {f f' : Fh} {l : Addr} {xs : List Value} (e : Ext M f f') (h : IsL f l xs) (n : l ∉ M) : IsL f' l xs := h.imp (fun q => e _ _ q n) fun q => e _ _ q n

variable {w : World} {f f' : Fh}
abbrev Ds (R : Rw) : List Addr := R.map (·.2.1)
theorem upd_get (g : Nat → Inf → Inf) (R : Rw) (n : Nat) : (upd g R)[n]? = R[n]?.map fun r => (r.1, r.2.1, g n r.2.2) := by unfold upd; rw [List.getElem?_mapIdx]
theorem upd_len (g : Nat → Inf → Inf) (R : Rw) : (upd g R).length = R.length := by unfold upd; exact List.length_mapIdx
theorem upd_Ds (g : Nat → Inf → Inf) (R : Rw) : Ds (upd g R) = Ds R := by
  apply List.ext_getElem?
  intro n; rw [List.getElem?_map, List.getElem?_map, upd_get]; cases R[n]? <;> rfl
theorem upd_refs (g : Nat → Inf → Inf) (R : Rw) : refs (upd g R) = refs R := by
  apply List.ext_getElem?
  intro n; rw [List.getElem?_map, List.getElem?_map, upd_get]; cases R[n]? <;> rfl
theorem upd_upd (g h : Nat → Inf → Inf) (R : Rw) : upd g (upd h R) = upd (fun n x => g n (h n x)) R := by
  apply List.ext_getElem?
  intro n; simp only [upd_get, Option.map_map]; rfl
theorem upd_ext {g h : Nat → Inf → Inf} {R : Rw} (e : ∀ n r, R[n]? = some r → g n r.2.2 = h n r.2.2) : upd g R = upd h R := by
  apply List.ext_getElem?
  intro n; simp only [upd_get]
  cases q : R[n]? with
  | none => rfl
  | some r => simp only [Option.map_some, e n r q]
theorem upd_id {g : Nat → Inf → Inf} {R : Rw} (e : ∀ n r, R[n]? = some r → g n r.2.2 = r.2.2) : upd g R = R := by
  apply List.ext_getElem?
  intro n; simp only [upd_get]
  cases q : R[n]? with
  | none => rfl
  | some r => simp only [Option.map_some, e n r q]
theorem Row.get {R : Rw} {n : Nat} {r : Addr × Addr × Inf} (h : Row w f R) (e : R[n]? = some r) : IsInfo w f r.1 r.2.1 r.2.2 := h.2 r (List.mem_of_getElem? e)
theorem Row.of {R : Rw} {g : Nat → Inf → Inf} (h : (Ds R).Nodup) (k : ∀ n r, R[n]? = some r → IsInfo w f' r.1 r.2.1 (g n r.2.2)) : Row w f' (upd g R) := by
  refine ⟨by rw [show (upd g R).map (·.2.1) = Ds R from upd_Ds g R]; exact h, fun r hr => ?_⟩
  obtain ⟨n, hn⟩ := List.mem_iff_getElem?.mp hr
  rw [upd_get] at hn
  obtain ⟨r', hr', rfl⟩ := Option.map_eq_some_iff.mp hn
  exact k n r' hr'
theorem Row.off {R : Rw} {r : Addr × Addr × Inf} (h : Row w f R) (hr : r ∈ R) : r.1 ∉ Ds R := fun q => by
  obtain ⟨r', hr', e⟩ := List.mem_map.mp q
  have := (h.2 r hr).1.symm.trans (e ▸ (h.2 r' hr').2)
  cases this
theorem Row.ne {R : Rw} {i j : Nat} {r r' : Addr × Addr × Inf} (h : Row w f R) (e : R[i]? = some r) (e' : R[j]? = some r') (n : i ≠ j) : r.2.1 ≠ r'.2.1 := fun q => n (by
  have a : (Ds R)[i]? = some r.2.1 := by rw [List.getElem?_map, e]; rfl
  have b : (Ds R)[j]? = some r'.2.1 := by rw [List.getElem?_map, e']; rfl
  exact (List.getElem?_inj (List.getElem?_eq_some_iff.mp a).1 h.1).mp (a.trans (q ▸ b.symm)))
theorem Row.ext {R : Rw} {M : List Addr} (h : Row w f R) (e : Ext M f f') (n : ∀ r ∈ R, r.1 ∉ M ∧ r.2.1 ∉ M) : Row w f' R :=
  ⟨h.1, fun r hr => ⟨e _ _ (h.2 r hr).1 (n r hr).1, e _ _ (h.2 r hr).2 (n r hr).2⟩⟩
theorem Row.set {R : Rw} {n : Nat} {r : Addr × Addr × Inf} {y : Inf} (h : Row w f R) (e : R[n]? = some r) : Row w (fset f r.2.1 (.dict (infoEs w.params y))) (upd (fun k z => if k = n then y else z) R) :=
  Row.of h.1 fun k r' e' => by
    by_cases q : k = n
    · subst q; rw [e] at e'; cases e'; rw [if_pos rfl]; exact IsInfo.self (h.get e)
    · rw [if_neg q]; exact IsInfo.upd (h.get e') (h.get e) (h.ne e' e q)
theorem refs_get (R : Rw) (n : Nat) : (refs R)[n]? = R[n]?.map fun r => .ref r.1 := List.getElem?_map ..
theorem pickL_eq {xs : List Value} {lo hi st : Option Int} : pickL xs lo hi st = (slicePick xs.toArray lo hi st).toList := by
  unfold pickL slicePick; simp
theorem pickL_run {xs : List Value} {a b : Nat} (h : a ≤ b) (hb : b ≤ xs.length) : pickL xs (some a) (some b) none = (xs.drop a).take (b - a) := by
  have e : sliceBounds (some (a : Int)) (some (b : Int)) none xs.toArray.size = ((a : Int), (b : Int), 1) := by
    simp only [sliceBounds, Option.getD_none, show (1 : Int) > 0 by decide, if_true, if_neg (show ¬ ((a : Int) < 0) by omega), if_neg (show ¬ ((b : Int) < 0) by omega), List.size_toArray]
    congr 1
    · omega
    · congr 1; omega
  rw [pickL_eq, kmk_pick_nat xs.toArray e]
theorem pickL_from {xs : List Value} {a : Nat} : pickL xs (some a) none none = xs.drop a := by
  have e : sliceBounds (some (a : Int)) none none xs.toArray.size = (((min a xs.length : Nat) : Int), ((xs.length : Nat) : Int), 1) := by
    simp only [sliceBounds, Option.getD_none, show (1 : Int) > 0 by decide, if_true, if_neg (show ¬ ((a : Int) < 0) by omega), List.size_toArray]
    congr 1; omega
  rw [pickL_eq, kmk_pick_nat xs.toArray e]
  show (xs.drop (min a xs.length)).take (xs.length - min a xs.length) = _
  rw [kmk_drop_min, List.take_of_length_le (by rw [List.length_drop]; omega)]
theorem pickL_upto {xs : List Value} {b : Nat} : pickL xs none (some b) none = xs.take b := by
  have e : sliceBounds none (some (b : Int)) none xs.toArray.size = (((0 : Nat) : Int), ((min b xs.length : Nat) : Int), 1) := by
    simp only [sliceBounds, Option.getD_none, show (1 : Int) > 0 by decide, if_true, if_neg (show ¬ ((b : Int) < 0) by omega), List.size_toArray]
    congr 1; congr 1; omega
  rw [pickL_eq, kmk_pick_nat xs.toArray e]
  show (xs.drop 0).take (min b xs.length - 0) = _
  rw [List.drop_zero, Nat.sub_zero, kmk_take_min]
theorem pickL_rev {xs : List Value} : pickL xs none none (some (-1)) = xs.reverse := by rw [pickL_eq, krv_pick]

theorem at_row {P : Params} : AttrOk (KK P) 98 "row" := ⟨by k_is, by k_is, _, by k_is, by k_is⟩
theorem at_back {P : Params} : AttrOk (KK P) 98 "is_backward" := ⟨by k_is, by k_is, _, by k_is, by k_is⟩
section
variable {h₀ : Heap} {A : Around} {env : Env} {m : Loc} {P : Value → Fh → Prop}
theorem Ex.brow {o : Expr} {pos : Pos} (hG : (GG w h₀).Ok) (h : Ex ⟨GG w h₀, A, env⟩ m f o fun v f₁ => ∃ b bd rl back, v = .ref b ∧ IsBuf w f₁ b bd rl back ∧ P (.ref rl) f₁)
    (he : eval (.Attribute o "row" pos) env = (do let v ← eval o env; standAt pos.atName; let r ← holding [v] (getAttr v "row" true); letTemporaryGo o v r; pure r) := by rfl) : Ex ⟨GG w h₀, A, env⟩ m f (.Attribute o "row" pos) P :=
  Ex.attr hG (h.mono fun v f₁ h => by obtain ⟨b, bd, rl, back, rfl, B, p⟩ := h; exact ⟨b, 98, bd, _, _, rfl, at_row, B.1, B.2, rfl, rfl, p⟩) he
theorem Ex.bback {o : Expr} {pos : Pos} (hG : (GG w h₀).Ok) (h : Ex ⟨GG w h₀, A, env⟩ m f o fun v f₁ => ∃ b bd rl back, v = .ref b ∧ IsBuf w f₁ b bd rl back ∧ P (.bool back) f₁)
    (he : eval (.Attribute o "is_backward" pos) env = (do let v ← eval o env; standAt pos.atName; let r ← holding [v] (getAttr v "is_backward" true); letTemporaryGo o v r; pure r) := by rfl) : Ex ⟨GG w h₀, A, env⟩ m f (.Attribute o "is_backward" pos) P :=
  Ex.attr hG (h.mono fun v f₁ h => by obtain ⟨b, bd, rl, back, rfl, B, p⟩ := h; exact ⟨b, 98, bd, _, _, rfl, at_back, B.1, B.2, rfl, rfl, p⟩) he
end
theorem IsBuf.ext {M : List Addr} {b bd rl : Addr} {back : Bool} (B : IsBuf w f b bd rl back) (e : Ext M f f') (n : b ∉ M) (n' : bd ∉ M) : IsBuf w f' b bd rl back := ⟨e _ _ B.1 n, e _ _ B.2 n'⟩
section
variable {P : Params}
theorem bi_len : BiOk (KK P) "len" (.builtin "len") := ⟨by k_is, by boot_fast⟩
theorem bi_min : BiOk (KK P) "min" (.builtin "min") := ⟨by k_is, by boot_fast⟩
theorem bi_max : BiOk (KK P) "max" (.builtin "max") := ⟨by k_is, by boot_fast⟩
theorem bi_abs : BiOk (KK P) "abs" (.builtin "abs") := ⟨by k_is, by boot_fast⟩
theorem bi_sum : BiOk (KK P) "sum" (.builtin "sum") := ⟨by k_is, by boot_fast⟩
theorem bi_int : BiOk (KK P) "int" (.type "int") := ⟨by k_is, by boot_fast⟩
theorem bi_range : BiOk (KK P) "range" (.type "range") := ⟨by k_is, by boot_fast⟩
theorem bi_list : BiOk (KK P) "list" (.type "list") := ⟨by k_is, by boot_fast⟩
theorem bi_tuple : BiOk (KK P) "tuple" (.type "tuple") := ⟨by k_is, by boot_fast⟩
theorem bi_dict : BiOk (KK P) "dict" (.type "dict") := ⟨by k_is, by boot_fast⟩
theorem bi_zip : BiOk (KK P) "zip" (.type "zip") := ⟨by k_is, by boot_fast⟩
end

end Mine

namespace Mine
-- W1
set_option maxRecDepth 100000
set_option maxHeartbeats 2000000
theorem fillit1 : (PySem.Challenge.rw_nu0162_01 = PySem.Challenge.rw_nu0162_01) ∧ (∀ P, KK P = KK P) := by
  k_fill
  exact ⟨rfl, fun _ => rfl⟩
variable {w : World} {h₀ : Heap} {A : Around} {f : Fh}
theorem put_distance_spec {a1 d1 a2 d2 : Addr} {x1 x2 : Inf} {dist : Int} {P : Value → Fh → Prop} (hG : (GG w h₀).Ok) (hA : Rm 1 A) (i1 : IsInfo w f a1 d1 x1) (i2 : IsInfo w f a2 d2 x2) (hne : d1 ≠ d2)
    (h : ∀ f', (∀ b, b ≠ d1 → b ≠ d2 → f' b = f b) → IsInfo w f' a1 d1 (x1.s_xa (x1.xa + dist / 2)) → IsInfo w f' a2 d2 ((x2.s_xa (x2.xa + (dist - dist / 2))).s_xo (x2.xo + (dist - dist / 2))) → P .none f') :
    Cd (GG w h₀) A f 128 [.ref a1, .ref a2, iv dist] P := by
  refine Cd.enter3 (n₁ := "one") (n₂ := "other") (n₃ := "distance") hG hA (ho_lit (by dsimp only; k_is) rfl) (by dsimp only; k_is) fun L hA => ?_
  repeat (first
  | ((with_reducible refine' Ss.name ?_ ?h1 ?h2 ?h3); (case h1 => rfl); (case h2 => rfl); (case h3 => rfl))
  | (with_reducible refine' Ss.ret ?_)
  | (with_reducible refine' Ss.ret0 ?_)
  | ((with_reducible refine' Ss.set_xa ?h0 ?_ ?h2); (case h0 => assumption); (case h2 => rfl))
  | ((with_reducible refine' Ss.set_xo ?h0 ?_ ?h2); (case h0 => assumption); (case h2 => rfl))
  | ((with_reducible refine' Ss.set_parent ?h0 ?_ ?h2); (case h0 => assumption); (case h2 => rfl))
  | ((with_reducible refine' Ss.set_un ?h0 ?_ ?h2); (case h0 => assumption); (case h2 => rfl))
  | (with_reducible refine' Ss.cond ?_)
  | (with_reducible refine' Ss.nilA ?_)
  | (with_reducible refine' Ss.nil ?_)
  | (with_reducible refine' Ex.cint ?_)
  | (with_reducible refine' Ex.cstr ?_)
  | (with_reducible refine' Ex.cbool ?_)
  | (with_reducible refine' Ex.cnone ?_)
  | ((with_reducible refine' Ex.name ?h0 ?_ ?h2 ?h3 ?h4); (case h0 => rfl); (case h2 => rfl); (case h3 => rfl); (case h4 => decide))
  | (with_reducible refine' Ex.binop ?_)
  | ((with_reducible refine' Ex.cmp ?_ ?h1); (case h1 => rfl))
  | (with_reducible refine' Ex.neg ?_)
  | ((with_reducible refine' Ex.info ?h0 ?_ ?h2); (case h0 => assumption); (case h2 => rfl))
  | (with_reducible refine' Ex.ite ?_)
  | (with_reducible refine' Ex.or2 ?_)
  | (with_reducible refine' Ex.and2 ?_)
  | (with_reducible refine' Ex.bool1 ?_)
  | ((with_reducible refine' Ts.cmp ?_ ?h1); (case h1 => rfl))
  | (with_reducible refine' Ts.and2 ?_)
  | (with_reducible refine' TrB.and1 ?_)
  | (with_reducible refine' TrB.and0 ?_)
  | (with_reducible refine' TrB.or1 ?_)
  | (with_reducible refine' TrB.or0 ?_)
  | (with_reducible refine' Bo.add ?_)
  | (with_reducible refine' Bo.sub ?_)
  | ((with_reducible refine' Bo.shr ?h0 ?_); (case h0 => decide))
  | (with_reducible refine' Bo.and ?_)
  | (with_reducible refine' Co.eq ?_)
  | (with_reducible refine' Co.ne ?_)
  | (with_reducible refine' Co.lt ?_)
  | (with_reducible refine' Co.le ?_)
  | (with_reducible refine' Co.gt ?_)
  | (with_reducible refine' Co.ge ?_)
  | (with_reducible refine' Co.eqb ?_)
  | (with_reducible refine' Tt.int ?_)
  | (with_reducible refine' Tt.bool ?_)
  | ((with_reducible refine' Ar.cons ?_ ?h1); (case h1 => rfl))
  | (with_reducible refine' Ar.nil ?_)
  | (with_reducible refine' Ex.tup ?_)
  | (with_reducible refine' Ex.list ?_)
  | refine ⟨_, _, _, _, rfl, rfl, (by first | assumption | exact IsInfo.self (by (first | assumption | exact IsInfo.self (by assumption) | exact IsInfo.upd (by assumption) (by assumption) (by first | assumption | (apply Ne.symm; assumption)))) | exact IsInfo.upd (by (first | assumption | exact IsInfo.self (by assumption) | exact IsInfo.upd (by assumption) (by assumption) (by first | assumption | (apply Ne.symm; assumption)))) (by (first | assumption | exact IsInfo.self (by assumption) | exact IsInfo.upd (by assumption) (by assumption) (by first | assumption | (apply Ne.symm; assumption)))) (by first | assumption | (apply Ne.symm; assumption))), ?_⟩
  | refine ⟨_, _, _, _, rfl, (by (first | assumption | exact IsInfo.self (by (first | assumption | exact IsInfo.self (by assumption) | exact IsInfo.upd (by assumption) (by assumption) (by first | assumption | (apply Ne.symm; assumption)))) | exact IsInfo.upd (by (first | assumption | exact IsInfo.self (by assumption) | exact IsInfo.upd (by assumption) (by assumption) (by first | assumption | (apply Ne.symm; assumption)))) (by (first | assumption | exact IsInfo.self (by assumption) | exact IsInfo.upd (by assumption) (by assumption) (by first | assumption | (apply Ne.symm; assumption)))) (by first | assumption | (apply Ne.symm; assumption)))), (by simp), rfl, rfl, ?_⟩)
  have e : dist.fdiv (2 ^ Int.toNat 1) = dist / 2 := Int.fdiv_eq_ediv_of_nonneg _ (by decide)
  rw [e]
  refine h _ ?_ ?_ ?_
  · intro b h1 h2; rw [fset_ne h2, fset_ne h2, fset_ne h1]
  · exact IsInfo.upd (IsInfo.upd (IsInfo.self i1) (IsInfo.upd i2 i1 hne.symm) hne) (IsInfo.self (IsInfo.upd i2 i1 hne.symm)) hne
  · exact IsInfo.self (IsInfo.self (IsInfo.upd i2 i1 hne.symm))

end Mine

namespace Mine
-- W2
set_option maxRecDepth 100000
set_option maxHeartbeats 2000000
theorem fillit2 : (PySem.Challenge.rw_nu0162_01 = PySem.Challenge.rw_nu0162_01) ∧ (∀ P, KK P = KK P) := by
  k_fill
  exact ⟨rfl, fun _ => rfl⟩
variable {w : World} {h₀ : Heap} {A : Around} {f : Fh}
def hangG (i j : Nat) (M : Int) (n : Nat) (x : Inf) : Inf := if i ≤ n ∧ n < j ∧ x.cluster ≠ M then x.s_un true else x
theorem hang_spec {b bd rl : Addr} {back : Bool} {R : Rw} {i j : Nat} {P : Value → Fh → Prop} (hG : (GG w h₀).Ok) (hA : Rm 1 A) (B : IsBuf w f b bd rl back) (hl : f rl = some (.list (refs R))) (hR : Row w f R)
    (hij : i + 2 ≤ j) (hj : j ≤ R.length) (hz : R.length ≤ 1000)
    (h : ∀ f' M, (∃ n r, i ≤ n ∧ n < j ∧ R[n]? = some r ∧ M = r.2.2.cluster) → (∀ n r, i ≤ n → n < j → R[n]? = some r → M ≤ r.2.2.cluster) → Ext (Ds R) f f' → Row w f' (upd (hangG i j M) R) → P .none f') :
    Cd (GG w h₀) A f 107 [.ref b, iv i, iv j] P := by
  refine Cd.enter3 (n₁ := "buffer") (n₂ := "begin") (n₃ := "end") hG hA (ho_lit (by dsimp only; k_is) rfl) (by dsimp only; k_is) fun L hA => ?_
  refine Ss.name (Ex.slice ?_)
  refine Ex.brow hG ?_
  (first
  | ((with_reducible refine' Ss.name ?_ ?h1 ?h2 ?h3); (case h1 => rfl); (case h2 => rfl); (case h3 => rfl))
  | (with_reducible refine' Ss.ret ?_)
  | (with_reducible refine' Ss.ret0 ?_)
  | ((with_reducible refine' Ss.set_xa ?h0 ?_ ?h2); (case h0 => assumption); (case h2 => rfl))
  | ((with_reducible refine' Ss.set_xo ?h0 ?_ ?h2); (case h0 => assumption); (case h2 => rfl))
  | ((with_reducible refine' Ss.set_parent ?h0 ?_ ?h2); (case h0 => assumption); (case h2 => rfl))
  | ((with_reducible refine' Ss.set_un ?h0 ?_ ?h2); (case h0 => assumption); (case h2 => rfl))
  | (with_reducible refine' Ss.cond ?_)
  | (with_reducible refine' Ss.nilA ?_)
  | (with_reducible refine' Ss.nil ?_)
  | (with_reducible refine' Ex.cint ?_)
  | (with_reducible refine' Ex.cstr ?_)
  | (with_reducible refine' Ex.cbool ?_)
  | (with_reducible refine' Ex.cnone ?_)
  | ((with_reducible refine' Ex.name ?h0 ?_ ?h2 ?h3 ?h4); (case h0 => rfl); (case h2 => rfl); (case h3 => rfl); (case h4 => decide))
  | (with_reducible refine' Ex.binop ?_)
  | ((with_reducible refine' Ex.cmp ?_ ?h1); (case h1 => rfl))
  | (with_reducible refine' Ex.neg ?_)
  | ((with_reducible refine' Ex.info ?h0 ?_ ?h2); (case h0 => assumption); (case h2 => rfl))
  | (with_reducible refine' Ex.ite ?_)
  | (with_reducible refine' Ex.or2 ?_)
  | (with_reducible refine' Ex.and2 ?_)
  | (with_reducible refine' Ex.bool1 ?_)
  | ((with_reducible refine' Ts.cmp ?_ ?h1); (case h1 => rfl))
  | (with_reducible refine' Ts.and2 ?_)
  | (with_reducible refine' TrB.and1 ?_)
  | (with_reducible refine' TrB.and0 ?_)
  | (with_reducible refine' TrB.or1 ?_)
  | (with_reducible refine' TrB.or0 ?_)
  | (with_reducible refine' Bo.add ?_)
  | (with_reducible refine' Bo.sub ?_)
  | ((with_reducible refine' Bo.shr ?h0 ?_); (case h0 => decide))
  | (with_reducible refine' Bo.and ?_)
  | (with_reducible refine' Co.eq ?_)
  | (with_reducible refine' Co.ne ?_)
  | (with_reducible refine' Co.lt ?_)
  | (with_reducible refine' Co.le ?_)
  | (with_reducible refine' Co.gt ?_)
  | (with_reducible refine' Co.ge ?_)
  | (with_reducible refine' Co.eqb ?_)
  | (with_reducible refine' Tt.int ?_)
  | (with_reducible refine' Tt.bool ?_)
  | ((with_reducible refine' Ar.cons ?_ ?h1); (case h1 => rfl))
  | (with_reducible refine' Ar.nil ?_)
  | (with_reducible refine' Ex.tup ?_)
  | (with_reducible refine' Ex.list ?_)
  | refine ⟨_, _, _, _, rfl, rfl, (by first | assumption | exact IsInfo.self (by (first | assumption | exact IsInfo.self (by assumption) | exact IsInfo.upd (by assumption) (by assumption) (by first | assumption | (apply Ne.symm; assumption)))) | exact IsInfo.upd (by (first | assumption | exact IsInfo.self (by assumption) | exact IsInfo.upd (by assumption) (by assumption) (by first | assumption | (apply Ne.symm; assumption)))) (by (first | assumption | exact IsInfo.self (by assumption) | exact IsInfo.upd (by assumption) (by assumption) (by first | assumption | (apply Ne.symm; assumption)))) (by first | assumption | (apply Ne.symm; assumption))), ?_⟩
  | refine ⟨_, _, _, _, rfl, (by (first | assumption | exact IsInfo.self (by (first | assumption | exact IsInfo.self (by assumption) | exact IsInfo.upd (by assumption) (by assumption) (by first | assumption | (apply Ne.symm; assumption)))) | exact IsInfo.upd (by (first | assumption | exact IsInfo.self (by assumption) | exact IsInfo.upd (by assumption) (by assumption) (by first | assumption | (apply Ne.symm; assumption)))) (by (first | assumption | exact IsInfo.self (by assumption) | exact IsInfo.upd (by assumption) (by assumption) (by first | assumption | (apply Ne.symm; assumption)))) (by first | assumption | (apply Ne.symm; assumption)))), (by simp), rfl, rfl, ?_⟩)
  refine ⟨_, _, _, _, rfl, B, ?_⟩
  show Ex _ _ _ _ _
  (first
  | ((with_reducible refine' Ss.name ?_ ?h1 ?h2 ?h3); (case h1 => rfl); (case h2 => rfl); (case h3 => rfl))
  | (with_reducible refine' Ss.ret ?_)
  | (with_reducible refine' Ss.ret0 ?_)
  | ((with_reducible refine' Ss.set_xa ?h0 ?_ ?h2); (case h0 => assumption); (case h2 => rfl))
  | ((with_reducible refine' Ss.set_xo ?h0 ?_ ?h2); (case h0 => assumption); (case h2 => rfl))
  | ((with_reducible refine' Ss.set_parent ?h0 ?_ ?h2); (case h0 => assumption); (case h2 => rfl))
  | ((with_reducible refine' Ss.set_un ?h0 ?_ ?h2); (case h0 => assumption); (case h2 => rfl))
  | (with_reducible refine' Ss.cond ?_)
  | (with_reducible refine' Ss.nilA ?_)
  | (with_reducible refine' Ss.nil ?_)
  | (with_reducible refine' Ex.cint ?_)
  | (with_reducible refine' Ex.cstr ?_)
  | (with_reducible refine' Ex.cbool ?_)
  | (with_reducible refine' Ex.cnone ?_)
  | ((with_reducible refine' Ex.name ?h0 ?_ ?h2 ?h3 ?h4); (case h0 => rfl); (case h2 => rfl); (case h3 => rfl); (case h4 => decide))
  | (with_reducible refine' Ex.binop ?_)
  | ((with_reducible refine' Ex.cmp ?_ ?h1); (case h1 => rfl))
  | (with_reducible refine' Ex.neg ?_)
  | ((with_reducible refine' Ex.info ?h0 ?_ ?h2); (case h0 => assumption); (case h2 => rfl))
  | (with_reducible refine' Ex.ite ?_)
  | (with_reducible refine' Ex.or2 ?_)
  | (with_reducible refine' Ex.and2 ?_)
  | (with_reducible refine' Ex.bool1 ?_)
  | ((with_reducible refine' Ts.cmp ?_ ?h1); (case h1 => rfl))
  | (with_reducible refine' Ts.and2 ?_)
  | (with_reducible refine' TrB.and1 ?_)
  | (with_reducible refine' TrB.and0 ?_)
  | (with_reducible refine' TrB.or1 ?_)
  | (with_reducible refine' TrB.or0 ?_)
  | (with_reducible refine' Bo.add ?_)
  | (with_reducible refine' Bo.sub ?_)
  | ((with_reducible refine' Bo.shr ?h0 ?_); (case h0 => decide))
  | (with_reducible refine' Bo.and ?_)
  | (with_reducible refine' Co.eq ?_)
  | (with_reducible refine' Co.ne ?_)
  | (with_reducible refine' Co.lt ?_)
  | (with_reducible refine' Co.le ?_)
  | (with_reducible refine' Co.gt ?_)
  | (with_reducible refine' Co.ge ?_)
  | (with_reducible refine' Co.eqb ?_)
  | (with_reducible refine' Tt.int ?_)
  | (with_reducible refine' Tt.bool ?_)
  | ((with_reducible refine' Ar.cons ?_ ?h1); (case h1 => rfl))
  | (with_reducible refine' Ar.nil ?_)
  | (with_reducible refine' Ex.tup ?_)
  | (with_reducible refine' Ex.list ?_)
  | refine ⟨_, _, _, _, rfl, rfl, (by first | assumption | exact IsInfo.self (by (first | assumption | exact IsInfo.self (by assumption) | exact IsInfo.upd (by assumption) (by assumption) (by first | assumption | (apply Ne.symm; assumption)))) | exact IsInfo.upd (by (first | assumption | exact IsInfo.self (by assumption) | exact IsInfo.upd (by assumption) (by assumption) (by first | assumption | (apply Ne.symm; assumption)))) (by (first | assumption | exact IsInfo.self (by assumption) | exact IsInfo.upd (by assumption) (by assumption) (by first | assumption | (apply Ne.symm; assumption)))) (by first | assumption | (apply Ne.symm; assumption))), ?_⟩
  | refine ⟨_, _, _, _, rfl, (by (first | assumption | exact IsInfo.self (by (first | assumption | exact IsInfo.self (by assumption) | exact IsInfo.upd (by assumption) (by assumption) (by first | assumption | (apply Ne.symm; assumption)))) | exact IsInfo.upd (by (first | assumption | exact IsInfo.self (by assumption) | exact IsInfo.upd (by assumption) (by assumption) (by first | assumption | (apply Ne.symm; assumption)))) (by (first | assumption | exact IsInfo.self (by assumption) | exact IsInfo.upd (by assumption) (by assumption) (by first | assumption | (apply Ne.symm; assumption)))) (by first | assumption | (apply Ne.symm; assumption)))), (by simp), rfl, rfl, ?_⟩)
  refine ⟨_, rfl, ?_⟩
  show Ex _ _ _ _ _
  (first
  | ((with_reducible refine' Ss.name ?_ ?h1 ?h2 ?h3); (case h1 => rfl); (case h2 => rfl); (case h3 => rfl))
  | (with_reducible refine' Ss.ret ?_)
  | (with_reducible refine' Ss.ret0 ?_)
  | ((with_reducible refine' Ss.set_xa ?h0 ?_ ?h2); (case h0 => assumption); (case h2 => rfl))
  | ((with_reducible refine' Ss.set_xo ?h0 ?_ ?h2); (case h0 => assumption); (case h2 => rfl))
  | ((with_reducible refine' Ss.set_parent ?h0 ?_ ?h2); (case h0 => assumption); (case h2 => rfl))
  | ((with_reducible refine' Ss.set_un ?h0 ?_ ?h2); (case h0 => assumption); (case h2 => rfl))
  | (with_reducible refine' Ss.cond ?_)
  | (with_reducible refine' Ss.nilA ?_)
  | (with_reducible refine' Ss.nil ?_)
  | (with_reducible refine' Ex.cint ?_)
  | (with_reducible refine' Ex.cstr ?_)
  | (with_reducible refine' Ex.cbool ?_)
  | (with_reducible refine' Ex.cnone ?_)
  | ((with_reducible refine' Ex.name ?h0 ?_ ?h2 ?h3 ?h4); (case h0 => rfl); (case h2 => rfl); (case h3 => rfl); (case h4 => decide))
  | (with_reducible refine' Ex.binop ?_)
  | ((with_reducible refine' Ex.cmp ?_ ?h1); (case h1 => rfl))
  | (with_reducible refine' Ex.neg ?_)
  | ((with_reducible refine' Ex.info ?h0 ?_ ?h2); (case h0 => assumption); (case h2 => rfl))
  | (with_reducible refine' Ex.ite ?_)
  | (with_reducible refine' Ex.or2 ?_)
  | (with_reducible refine' Ex.and2 ?_)
  | (with_reducible refine' Ex.bool1 ?_)
  | ((with_reducible refine' Ts.cmp ?_ ?h1); (case h1 => rfl))
  | (with_reducible refine' Ts.and2 ?_)
  | (with_reducible refine' TrB.and1 ?_)
  | (with_reducible refine' TrB.and0 ?_)
  | (with_reducible refine' TrB.or1 ?_)
  | (with_reducible refine' TrB.or0 ?_)
  | (with_reducible refine' Bo.add ?_)
  | (with_reducible refine' Bo.sub ?_)
  | ((with_reducible refine' Bo.shr ?h0 ?_); (case h0 => decide))
  | (with_reducible refine' Bo.and ?_)
  | (with_reducible refine' Co.eq ?_)
  | (with_reducible refine' Co.ne ?_)
  | (with_reducible refine' Co.lt ?_)
  | (with_reducible refine' Co.le ?_)
  | (with_reducible refine' Co.gt ?_)
  | (with_reducible refine' Co.ge ?_)
  | (with_reducible refine' Co.eqb ?_)
  | (with_reducible refine' Tt.int ?_)
  | (with_reducible refine' Tt.bool ?_)
  | ((with_reducible refine' Ar.cons ?_ ?h1); (case h1 => rfl))
  | (with_reducible refine' Ar.nil ?_)
  | (with_reducible refine' Ex.tup ?_)
  | (with_reducible refine' Ex.list ?_)
  | refine ⟨_, _, _, _, rfl, rfl, (by first | assumption | exact IsInfo.self (by (first | assumption | exact IsInfo.self (by assumption) | exact IsInfo.upd (by assumption) (by assumption) (by first | assumption | (apply Ne.symm; assumption)))) | exact IsInfo.upd (by (first | assumption | exact IsInfo.self (by assumption) | exact IsInfo.upd (by assumption) (by assumption) (by first | assumption | (apply Ne.symm; assumption)))) (by (first | assumption | exact IsInfo.self (by assumption) | exact IsInfo.upd (by assumption) (by assumption) (by first | assumption | (apply Ne.symm; assumption)))) (by first | assumption | (apply Ne.symm; assumption))), ?_⟩
  | refine ⟨_, _, _, _, rfl, (by (first | assumption | exact IsInfo.self (by (first | assumption | exact IsInfo.self (by assumption) | exact IsInfo.upd (by assumption) (by assumption) (by first | assumption | (apply Ne.symm; assumption)))) | exact IsInfo.upd (by (first | assumption | exact IsInfo.self (by assumption) | exact IsInfo.upd (by assumption) (by assumption) (by first | assumption | (apply Ne.symm; assumption)))) (by (first | assumption | exact IsInfo.self (by assumption) | exact IsInfo.upd (by assumption) (by assumption) (by first | assumption | (apply Ne.symm; assumption)))) (by first | assumption | (apply Ne.symm; assumption)))), (by simp), rfl, rfl, ?_⟩)
  refine ⟨_, rfl, ?_⟩
  refine ⟨by decide, rl, _, rfl, .inl hl, by rw [List.length_map]; omega, fun D hD => ?_⟩
  rw [pickL_run (by omega) (by rw [List.length_map]; exact hj)]
  have hTe : ((refs R).drop i).take (j - i) = refs ((R.drop i).take (j - i)) := by simp only [refs, List.map_take, List.map_drop]
  rw [hTe]
  have hTg : ∀ k, k < j - i → ((R.drop i).take (j - i))[k]? = R[i + k]? := fun k hk => by rw [List.getElem?_take, if_pos hk, List.getElem?_drop]
  have hTl : ((R.drop i).take (j - i)).length = j - i := by rw [List.length_take, List.length_drop]; omega
  generalize (R.drop i).take (j - i) = T at *
  have hrl : D ≠ rl := by rintro rfl; rw [hl] at hD; cases hD
  refine Ss.cond (Ts.cmp ?_)
  refine Ex.callF hG bi_len ?_
  (first
  | ((with_reducible refine' Ss.name ?_ ?h1 ?h2 ?h3); (case h1 => rfl); (case h2 => rfl); (case h3 => rfl))
  | (with_reducible refine' Ss.ret ?_)
  | (with_reducible refine' Ss.ret0 ?_)
  | ((with_reducible refine' Ss.set_xa ?h0 ?_ ?h2); (case h0 => assumption); (case h2 => rfl))
  | ((with_reducible refine' Ss.set_xo ?h0 ?_ ?h2); (case h0 => assumption); (case h2 => rfl))
  | ((with_reducible refine' Ss.set_parent ?h0 ?_ ?h2); (case h0 => assumption); (case h2 => rfl))
  | ((with_reducible refine' Ss.set_un ?h0 ?_ ?h2); (case h0 => assumption); (case h2 => rfl))
  | (with_reducible refine' Ss.cond ?_)
  | (with_reducible refine' Ss.nilA ?_)
  | (with_reducible refine' Ss.nil ?_)
  | (with_reducible refine' Ex.cint ?_)
  | (with_reducible refine' Ex.cstr ?_)
  | (with_reducible refine' Ex.cbool ?_)
  | (with_reducible refine' Ex.cnone ?_)
  | ((with_reducible refine' Ex.name ?h0 ?_ ?h2 ?h3 ?h4); (case h0 => rfl); (case h2 => rfl); (case h3 => rfl); (case h4 => decide))
  | (with_reducible refine' Ex.binop ?_)
  | ((with_reducible refine' Ex.cmp ?_ ?h1); (case h1 => rfl))
  | (with_reducible refine' Ex.neg ?_)
  | ((with_reducible refine' Ex.info ?h0 ?_ ?h2); (case h0 => assumption); (case h2 => rfl))
  | (with_reducible refine' Ex.ite ?_)
  | (with_reducible refine' Ex.or2 ?_)
  | (with_reducible refine' Ex.and2 ?_)
  | (with_reducible refine' Ex.bool1 ?_)
  | ((with_reducible refine' Ts.cmp ?_ ?h1); (case h1 => rfl))
  | (with_reducible refine' Ts.and2 ?_)
  | (with_reducible refine' TrB.and1 ?_)
  | (with_reducible refine' TrB.and0 ?_)
  | (with_reducible refine' TrB.or1 ?_)
  | (with_reducible refine' TrB.or0 ?_)
  | (with_reducible refine' Bo.add ?_)
  | (with_reducible refine' Bo.sub ?_)
  | ((with_reducible refine' Bo.shr ?h0 ?_); (case h0 => decide))
  | (with_reducible refine' Bo.and ?_)
  | (with_reducible refine' Co.eq ?_)
  | (with_reducible refine' Co.ne ?_)
  | (with_reducible refine' Co.lt ?_)
  | (with_reducible refine' Co.le ?_)
  | (with_reducible refine' Co.gt ?_)
  | (with_reducible refine' Co.ge ?_)
  | (with_reducible refine' Co.eqb ?_)
  | (with_reducible refine' Tt.int ?_)
  | (with_reducible refine' Tt.bool ?_)
  | ((with_reducible refine' Ar.cons ?_ ?h1); (case h1 => rfl))
  | (with_reducible refine' Ar.nil ?_)
  | (with_reducible refine' Ex.tup ?_)
  | (with_reducible refine' Ex.list ?_)
  | refine ⟨_, _, _, _, rfl, rfl, (by first | assumption | exact IsInfo.self (by (first | assumption | exact IsInfo.self (by assumption) | exact IsInfo.upd (by assumption) (by assumption) (by first | assumption | (apply Ne.symm; assumption)))) | exact IsInfo.upd (by (first | assumption | exact IsInfo.self (by assumption) | exact IsInfo.upd (by assumption) (by assumption) (by first | assumption | (apply Ne.symm; assumption)))) (by (first | assumption | exact IsInfo.self (by assumption) | exact IsInfo.upd (by assumption) (by assumption) (by first | assumption | (apply Ne.symm; assumption)))) (by first | assumption | (apply Ne.symm; assumption))), ?_⟩
  | refine ⟨_, _, _, _, rfl, (by (first | assumption | exact IsInfo.self (by (first | assumption | exact IsInfo.self (by assumption) | exact IsInfo.upd (by assumption) (by assumption) (by first | assumption | (apply Ne.symm; assumption)))) | exact IsInfo.upd (by (first | assumption | exact IsInfo.self (by assumption) | exact IsInfo.upd (by assumption) (by assumption) (by first | assumption | (apply Ne.symm; assumption)))) (by (first | assumption | exact IsInfo.self (by assumption) | exact IsInfo.upd (by assumption) (by assumption) (by first | assumption | (apply Ne.symm; assumption)))) (by first | assumption | (apply Ne.symm; assumption)))), (by simp), rfl, rfl, ?_⟩)
  (first
  | ((with_reducible refine' Ss.name ?_ ?h1 ?h2 ?h3); (case h1 => rfl); (case h2 => rfl); (case h3 => rfl))
  | (with_reducible refine' Ss.ret ?_)
  | (with_reducible refine' Ss.ret0 ?_)
  | ((with_reducible refine' Ss.set_xa ?h0 ?_ ?h2); (case h0 => assumption); (case h2 => rfl))
  | ((with_reducible refine' Ss.set_xo ?h0 ?_ ?h2); (case h0 => assumption); (case h2 => rfl))
  | ((with_reducible refine' Ss.set_parent ?h0 ?_ ?h2); (case h0 => assumption); (case h2 => rfl))
  | ((with_reducible refine' Ss.set_un ?h0 ?_ ?h2); (case h0 => assumption); (case h2 => rfl))
  | (with_reducible refine' Ss.cond ?_)
  | (with_reducible refine' Ss.nilA ?_)
  | (with_reducible refine' Ss.nil ?_)
  | (with_reducible refine' Ex.cint ?_)
  | (with_reducible refine' Ex.cstr ?_)
  | (with_reducible refine' Ex.cbool ?_)
  | (with_reducible refine' Ex.cnone ?_)
  | ((with_reducible refine' Ex.name ?h0 ?_ ?h2 ?h3 ?h4); (case h0 => rfl); (case h2 => rfl); (case h3 => rfl); (case h4 => decide))
  | (with_reducible refine' Ex.binop ?_)
  | ((with_reducible refine' Ex.cmp ?_ ?h1); (case h1 => rfl))
  | (with_reducible refine' Ex.neg ?_)
  | ((with_reducible refine' Ex.info ?h0 ?_ ?h2); (case h0 => assumption); (case h2 => rfl))
  | (with_reducible refine' Ex.ite ?_)
  | (with_reducible refine' Ex.or2 ?_)
  | (with_reducible refine' Ex.and2 ?_)
  | (with_reducible refine' Ex.bool1 ?_)
  | ((with_reducible refine' Ts.cmp ?_ ?h1); (case h1 => rfl))
  | (with_reducible refine' Ts.and2 ?_)
  | (with_reducible refine' TrB.and1 ?_)
  | (with_reducible refine' TrB.and0 ?_)
  | (with_reducible refine' TrB.or1 ?_)
  | (with_reducible refine' TrB.or0 ?_)
  | (with_reducible refine' Bo.add ?_)
  | (with_reducible refine' Bo.sub ?_)
  | ((with_reducible refine' Bo.shr ?h0 ?_); (case h0 => decide))
  | (with_reducible refine' Bo.and ?_)
  | (with_reducible refine' Co.eq ?_)
  | (with_reducible refine' Co.ne ?_)
  | (with_reducible refine' Co.lt ?_)
  | (with_reducible refine' Co.le ?_)
  | (with_reducible refine' Co.gt ?_)
  | (with_reducible refine' Co.ge ?_)
  | (with_reducible refine' Co.eqb ?_)
  | (with_reducible refine' Tt.int ?_)
  | (with_reducible refine' Tt.bool ?_)
  | ((with_reducible refine' Ar.cons ?_ ?h1); (case h1 => rfl))
  | (with_reducible refine' Ar.nil ?_)
  | (with_reducible refine' Ex.tup ?_)
  | (with_reducible refine' Ex.list ?_)
  | refine ⟨_, _, _, _, rfl, rfl, (by first | assumption | exact IsInfo.self (by (first | assumption | exact IsInfo.self (by assumption) | exact IsInfo.upd (by assumption) (by assumption) (by first | assumption | (apply Ne.symm; assumption)))) | exact IsInfo.upd (by (first | assumption | exact IsInfo.self (by assumption) | exact IsInfo.upd (by assumption) (by assumption) (by first | assumption | (apply Ne.symm; assumption)))) (by (first | assumption | exact IsInfo.self (by assumption) | exact IsInfo.upd (by assumption) (by assumption) (by first | assumption | (apply Ne.symm; assumption)))) (by first | assumption | (apply Ne.symm; assumption))), ?_⟩
  | refine ⟨_, _, _, _, rfl, (by (first | assumption | exact IsInfo.self (by (first | assumption | exact IsInfo.self (by assumption) | exact IsInfo.upd (by assumption) (by assumption) (by first | assumption | (apply Ne.symm; assumption)))) | exact IsInfo.upd (by (first | assumption | exact IsInfo.self (by assumption) | exact IsInfo.upd (by assumption) (by assumption) (by first | assumption | (apply Ne.symm; assumption)))) (by (first | assumption | exact IsInfo.self (by assumption) | exact IsInfo.upd (by assumption) (by assumption) (by first | assumption | (apply Ne.symm; assumption)))) (by first | assumption | (apply Ne.symm; assumption)))), (by simp), rfl, rfl, ?_⟩)
  (first
  | ((with_reducible refine' Ss.name ?_ ?h1 ?h2 ?h3); (case h1 => rfl); (case h2 => rfl); (case h3 => rfl))
  | (with_reducible refine' Ss.ret ?_)
  | (with_reducible refine' Ss.ret0 ?_)
  | ((with_reducible refine' Ss.set_xa ?h0 ?_ ?h2); (case h0 => assumption); (case h2 => rfl))
  | ((with_reducible refine' Ss.set_xo ?h0 ?_ ?h2); (case h0 => assumption); (case h2 => rfl))
  | ((with_reducible refine' Ss.set_parent ?h0 ?_ ?h2); (case h0 => assumption); (case h2 => rfl))
  | ((with_reducible refine' Ss.set_un ?h0 ?_ ?h2); (case h0 => assumption); (case h2 => rfl))
  | (with_reducible refine' Ss.cond ?_)
  | (with_reducible refine' Ss.nilA ?_)
  | (with_reducible refine' Ss.nil ?_)
  | (with_reducible refine' Ex.cint ?_)
  | (with_reducible refine' Ex.cstr ?_)
  | (with_reducible refine' Ex.cbool ?_)
  | (with_reducible refine' Ex.cnone ?_)
  | ((with_reducible refine' Ex.name ?h0 ?_ ?h2 ?h3 ?h4); (case h0 => rfl); (case h2 => rfl); (case h3 => rfl); (case h4 => decide))
  | (with_reducible refine' Ex.binop ?_)
  | ((with_reducible refine' Ex.cmp ?_ ?h1); (case h1 => rfl))
  | (with_reducible refine' Ex.neg ?_)
  | ((with_reducible refine' Ex.info ?h0 ?_ ?h2); (case h0 => assumption); (case h2 => rfl))
  | (with_reducible refine' Ex.ite ?_)
  | (with_reducible refine' Ex.or2 ?_)
  | (with_reducible refine' Ex.and2 ?_)
  | (with_reducible refine' Ex.bool1 ?_)
  | ((with_reducible refine' Ts.cmp ?_ ?h1); (case h1 => rfl))
  | (with_reducible refine' Ts.and2 ?_)
  | (with_reducible refine' TrB.and1 ?_)
  | (with_reducible refine' TrB.and0 ?_)
  | (with_reducible refine' TrB.or1 ?_)
  | (with_reducible refine' TrB.or0 ?_)
  | (with_reducible refine' Bo.add ?_)
  | (with_reducible refine' Bo.sub ?_)
  | ((with_reducible refine' Bo.shr ?h0 ?_); (case h0 => decide))
  | (with_reducible refine' Bo.and ?_)
  | (with_reducible refine' Co.eq ?_)
  | (with_reducible refine' Co.ne ?_)
  | (with_reducible refine' Co.lt ?_)
  | (with_reducible refine' Co.le ?_)
  | (with_reducible refine' Co.gt ?_)
  | (with_reducible refine' Co.ge ?_)
  | (with_reducible refine' Co.eqb ?_)
  | (with_reducible refine' Tt.int ?_)
  | (with_reducible refine' Tt.bool ?_)
  | ((with_reducible refine' Ar.cons ?_ ?h1); (case h1 => rfl))
  | (with_reducible refine' Ar.nil ?_)
  | (with_reducible refine' Ex.tup ?_)
  | (with_reducible refine' Ex.list ?_)
  | refine ⟨_, _, _, _, rfl, rfl, (by first | assumption | exact IsInfo.self (by (first | assumption | exact IsInfo.self (by assumption) | exact IsInfo.upd (by assumption) (by assumption) (by first | assumption | (apply Ne.symm; assumption)))) | exact IsInfo.upd (by (first | assumption | exact IsInfo.self (by assumption) | exact IsInfo.upd (by assumption) (by assumption) (by first | assumption | (apply Ne.symm; assumption)))) (by (first | assumption | exact IsInfo.self (by assumption) | exact IsInfo.upd (by assumption) (by assumption) (by first | assumption | (apply Ne.symm; assumption)))) (by first | assumption | (apply Ne.symm; assumption))), ?_⟩
  | refine ⟨_, _, _, _, rfl, (by (first | assumption | exact IsInfo.self (by (first | assumption | exact IsInfo.self (by assumption) | exact IsInfo.upd (by assumption) (by assumption) (by first | assumption | (apply Ne.symm; assumption)))) | exact IsInfo.upd (by (first | assumption | exact IsInfo.self (by assumption) | exact IsInfo.upd (by assumption) (by assumption) (by first | assumption | (apply Ne.symm; assumption)))) (by (first | assumption | exact IsInfo.self (by assumption) | exact IsInfo.upd (by assumption) (by assumption) (by first | assumption | (apply Ne.symm; assumption)))) (by first | assumption | (apply Ne.symm; assumption)))), (by simp), rfl, rfl, ?_⟩)
  refine Ca.len (.inl fset_self) (by rw [List.length_map]; omega) ?_
  (first
  | ((with_reducible refine' Ss.name ?_ ?h1 ?h2 ?h3); (case h1 => rfl); (case h2 => rfl); (case h3 => rfl))
  | (with_reducible refine' Ss.ret ?_)
  | (with_reducible refine' Ss.ret0 ?_)
  | ((with_reducible refine' Ss.set_xa ?h0 ?_ ?h2); (case h0 => assumption); (case h2 => rfl))
  | ((with_reducible refine' Ss.set_xo ?h0 ?_ ?h2); (case h0 => assumption); (case h2 => rfl))
  | ((with_reducible refine' Ss.set_parent ?h0 ?_ ?h2); (case h0 => assumption); (case h2 => rfl))
  | ((with_reducible refine' Ss.set_un ?h0 ?_ ?h2); (case h0 => assumption); (case h2 => rfl))
  | (with_reducible refine' Ss.cond ?_)
  | (with_reducible refine' Ss.nilA ?_)
  | (with_reducible refine' Ss.nil ?_)
  | (with_reducible refine' Ex.cint ?_)
  | (with_reducible refine' Ex.cstr ?_)
  | (with_reducible refine' Ex.cbool ?_)
  | (with_reducible refine' Ex.cnone ?_)
  | ((with_reducible refine' Ex.name ?h0 ?_ ?h2 ?h3 ?h4); (case h0 => rfl); (case h2 => rfl); (case h3 => rfl); (case h4 => decide))
  | (with_reducible refine' Ex.binop ?_)
  | ((with_reducible refine' Ex.cmp ?_ ?h1); (case h1 => rfl))
  | (with_reducible refine' Ex.neg ?_)
  | ((with_reducible refine' Ex.info ?h0 ?_ ?h2); (case h0 => assumption); (case h2 => rfl))
  | (with_reducible refine' Ex.ite ?_)
  | (with_reducible refine' Ex.or2 ?_)
  | (with_reducible refine' Ex.and2 ?_)
  | (with_reducible refine' Ex.bool1 ?_)
  | ((with_reducible refine' Ts.cmp ?_ ?h1); (case h1 => rfl))
  | (with_reducible refine' Ts.and2 ?_)
  | (with_reducible refine' TrB.and1 ?_)
  | (with_reducible refine' TrB.and0 ?_)
  | (with_reducible refine' TrB.or1 ?_)
  | (with_reducible refine' TrB.or0 ?_)
  | (with_reducible refine' Bo.add ?_)
  | (with_reducible refine' Bo.sub ?_)
  | ((with_reducible refine' Bo.shr ?h0 ?_); (case h0 => decide))
  | (with_reducible refine' Bo.and ?_)
  | (with_reducible refine' Co.eq ?_)
  | (with_reducible refine' Co.ne ?_)
  | (with_reducible refine' Co.lt ?_)
  | (with_reducible refine' Co.le ?_)
  | (with_reducible refine' Co.gt ?_)
  | (with_reducible refine' Co.ge ?_)
  | (with_reducible refine' Co.eqb ?_)
  | (with_reducible refine' Tt.int ?_)
  | (with_reducible refine' Tt.bool ?_)
  | ((with_reducible refine' Ar.cons ?_ ?h1); (case h1 => rfl))
  | (with_reducible refine' Ar.nil ?_)
  | (with_reducible refine' Ex.tup ?_)
  | (with_reducible refine' Ex.list ?_)
  | refine ⟨_, _, _, _, rfl, rfl, (by first | assumption | exact IsInfo.self (by (first | assumption | exact IsInfo.self (by assumption) | exact IsInfo.upd (by assumption) (by assumption) (by first | assumption | (apply Ne.symm; assumption)))) | exact IsInfo.upd (by (first | assumption | exact IsInfo.self (by assumption) | exact IsInfo.upd (by assumption) (by assumption) (by first | assumption | (apply Ne.symm; assumption)))) (by (first | assumption | exact IsInfo.self (by assumption) | exact IsInfo.upd (by assumption) (by assumption) (by first | assumption | (apply Ne.symm; assumption)))) (by first | assumption | (apply Ne.symm; assumption))), ?_⟩
  | refine ⟨_, _, _, _, rfl, (by (first | assumption | exact IsInfo.self (by (first | assumption | exact IsInfo.self (by assumption) | exact IsInfo.upd (by assumption) (by assumption) (by first | assumption | (apply Ne.symm; assumption)))) | exact IsInfo.upd (by (first | assumption | exact IsInfo.self (by assumption) | exact IsInfo.upd (by assumption) (by assumption) (by first | assumption | (apply Ne.symm; assumption)))) (by (first | assumption | exact IsInfo.self (by assumption) | exact IsInfo.upd (by assumption) (by assumption) (by first | assumption | (apply Ne.symm; assumption)))) (by first | assumption | (apply Ne.symm; assumption)))), (by simp), rfl, rfl, ?_⟩)
  (first
  | ((with_reducible refine' Ss.name ?_ ?h1 ?h2 ?h3); (case h1 => rfl); (case h2 => rfl); (case h3 => rfl))
  | (with_reducible refine' Ss.ret ?_)
  | (with_reducible refine' Ss.ret0 ?_)
  | ((with_reducible refine' Ss.set_xa ?h0 ?_ ?h2); (case h0 => assumption); (case h2 => rfl))
  | ((with_reducible refine' Ss.set_xo ?h0 ?_ ?h2); (case h0 => assumption); (case h2 => rfl))
  | ((with_reducible refine' Ss.set_parent ?h0 ?_ ?h2); (case h0 => assumption); (case h2 => rfl))
  | ((with_reducible refine' Ss.set_un ?h0 ?_ ?h2); (case h0 => assumption); (case h2 => rfl))
  | (with_reducible refine' Ss.cond ?_)
  | (with_reducible refine' Ss.nilA ?_)
  | (with_reducible refine' Ss.nil ?_)
  | (with_reducible refine' Ex.cint ?_)
  | (with_reducible refine' Ex.cstr ?_)
  | (with_reducible refine' Ex.cbool ?_)
  | (with_reducible refine' Ex.cnone ?_)
  | ((with_reducible refine' Ex.name ?h0 ?_ ?h2 ?h3 ?h4); (case h0 => rfl); (case h2 => rfl); (case h3 => rfl); (case h4 => decide))
  | (with_reducible refine' Ex.binop ?_)
  | ((with_reducible refine' Ex.cmp ?_ ?h1); (case h1 => rfl))
  | (with_reducible refine' Ex.neg ?_)
  | ((with_reducible refine' Ex.info ?h0 ?_ ?h2); (case h0 => assumption); (case h2 => rfl))
  | (with_reducible refine' Ex.ite ?_)
  | (with_reducible refine' Ex.or2 ?_)
  | (with_reducible refine' Ex.and2 ?_)
  | (with_reducible refine' Ex.bool1 ?_)
  | ((with_reducible refine' Ts.cmp ?_ ?h1); (case h1 => rfl))
  | (with_reducible refine' Ts.and2 ?_)
  | (with_reducible refine' TrB.and1 ?_)
  | (with_reducible refine' TrB.and0 ?_)
  | (with_reducible refine' TrB.or1 ?_)
  | (with_reducible refine' TrB.or0 ?_)
  | (with_reducible refine' Bo.add ?_)
  | (with_reducible refine' Bo.sub ?_)
  | ((with_reducible refine' Bo.shr ?h0 ?_); (case h0 => decide))
  | (with_reducible refine' Bo.and ?_)
  | (with_reducible refine' Co.eq ?_)
  | (with_reducible refine' Co.ne ?_)
  | (with_reducible refine' Co.lt ?_)
  | (with_reducible refine' Co.le ?_)
  | (with_reducible refine' Co.gt ?_)
  | (with_reducible refine' Co.ge ?_)
  | (with_reducible refine' Co.eqb ?_)
  | (with_reducible refine' Tt.int ?_)
  | (with_reducible refine' Tt.bool ?_)
  | ((with_reducible refine' Ar.cons ?_ ?h1); (case h1 => rfl))
  | (with_reducible refine' Ar.nil ?_)
  | (with_reducible refine' Ex.tup ?_)
  | (with_reducible refine' Ex.list ?_)
  | refine ⟨_, _, _, _, rfl, rfl, (by first | assumption | exact IsInfo.self (by (first | assumption | exact IsInfo.self (by assumption) | exact IsInfo.upd (by assumption) (by assumption) (by first | assumption | (apply Ne.symm; assumption)))) | exact IsInfo.upd (by (first | assumption | exact IsInfo.self (by assumption) | exact IsInfo.upd (by assumption) (by assumption) (by first | assumption | (apply Ne.symm; assumption)))) (by (first | assumption | exact IsInfo.self (by assumption) | exact IsInfo.upd (by assumption) (by assumption) (by first | assumption | (apply Ne.symm; assumption)))) (by first | assumption | (apply Ne.symm; assumption))), ?_⟩
  | refine ⟨_, _, _, _, rfl, (by (first | assumption | exact IsInfo.self (by (first | assumption | exact IsInfo.self (by assumption) | exact IsInfo.upd (by assumption) (by assumption) (by first | assumption | (apply Ne.symm; assumption)))) | exact IsInfo.upd (by (first | assumption | exact IsInfo.self (by assumption) | exact IsInfo.upd (by assumption) (by assumption) (by first | assumption | (apply Ne.symm; assumption)))) (by (first | assumption | exact IsInfo.self (by assumption) | exact IsInfo.upd (by assumption) (by assumption) (by first | assumption | (apply Ne.symm; assumption)))) (by first | assumption | (apply Ne.symm; assumption)))), (by simp), rfl, rfl, ?_⟩)
  refine ⟨_, rfl, ?_⟩
  rw [if_neg (by rw [List.length_map]; simp; omega)]
  (first
  | ((with_reducible refine' Ss.name ?_ ?h1 ?h2 ?h3); (case h1 => rfl); (case h2 => rfl); (case h3 => rfl))
  | (with_reducible refine' Ss.ret ?_)
  | (with_reducible refine' Ss.ret0 ?_)
  | ((with_reducible refine' Ss.set_xa ?h0 ?_ ?h2); (case h0 => assumption); (case h2 => rfl))
  | ((with_reducible refine' Ss.set_xo ?h0 ?_ ?h2); (case h0 => assumption); (case h2 => rfl))
  | ((with_reducible refine' Ss.set_parent ?h0 ?_ ?h2); (case h0 => assumption); (case h2 => rfl))
  | ((with_reducible refine' Ss.set_un ?h0 ?_ ?h2); (case h0 => assumption); (case h2 => rfl))
  | (with_reducible refine' Ss.cond ?_)
  | (with_reducible refine' Ss.nilA ?_)
  | (with_reducible refine' Ss.nil ?_)
  | (with_reducible refine' Ex.cint ?_)
  | (with_reducible refine' Ex.cstr ?_)
  | (with_reducible refine' Ex.cbool ?_)
  | (with_reducible refine' Ex.cnone ?_)
  | ((with_reducible refine' Ex.name ?h0 ?_ ?h2 ?h3 ?h4); (case h0 => rfl); (case h2 => rfl); (case h3 => rfl); (case h4 => decide))
  | (with_reducible refine' Ex.binop ?_)
  | ((with_reducible refine' Ex.cmp ?_ ?h1); (case h1 => rfl))
  | (with_reducible refine' Ex.neg ?_)
  | ((with_reducible refine' Ex.info ?h0 ?_ ?h2); (case h0 => assumption); (case h2 => rfl))
  | (with_reducible refine' Ex.ite ?_)
  | (with_reducible refine' Ex.or2 ?_)
  | (with_reducible refine' Ex.and2 ?_)
  | (with_reducible refine' Ex.bool1 ?_)
  | ((with_reducible refine' Ts.cmp ?_ ?h1); (case h1 => rfl))
  | (with_reducible refine' Ts.and2 ?_)
  | (with_reducible refine' TrB.and1 ?_)
  | (with_reducible refine' TrB.and0 ?_)
  | (with_reducible refine' TrB.or1 ?_)
  | (with_reducible refine' TrB.or0 ?_)
  | (with_reducible refine' Bo.add ?_)
  | (with_reducible refine' Bo.sub ?_)
  | ((with_reducible refine' Bo.shr ?h0 ?_); (case h0 => decide))
  | (with_reducible refine' Bo.and ?_)
  | (with_reducible refine' Co.eq ?_)
  | (with_reducible refine' Co.ne ?_)
  | (with_reducible refine' Co.lt ?_)
  | (with_reducible refine' Co.le ?_)
  | (with_reducible refine' Co.gt ?_)
  | (with_reducible refine' Co.ge ?_)
  | (with_reducible refine' Co.eqb ?_)
  | (with_reducible refine' Tt.int ?_)
  | (with_reducible refine' Tt.bool ?_)
  | ((with_reducible refine' Ar.cons ?_ ?h1); (case h1 => rfl))
  | (with_reducible refine' Ar.nil ?_)
  | (with_reducible refine' Ex.tup ?_)
  | (with_reducible refine' Ex.list ?_)
  | refine ⟨_, _, _, _, rfl, rfl, (by first | assumption | exact IsInfo.self (by (first | assumption | exact IsInfo.self (by assumption) | exact IsInfo.upd (by assumption) (by assumption) (by first | assumption | (apply Ne.symm; assumption)))) | exact IsInfo.upd (by (first | assumption | exact IsInfo.self (by assumption) | exact IsInfo.upd (by assumption) (by assumption) (by first | assumption | (apply Ne.symm; assumption)))) (by (first | assumption | exact IsInfo.self (by assumption) | exact IsInfo.upd (by assumption) (by assumption) (by first | assumption | (apply Ne.symm; assumption)))) (by first | assumption | (apply Ne.symm; assumption))), ?_⟩
  | refine ⟨_, _, _, _, rfl, (by (first | assumption | exact IsInfo.self (by (first | assumption | exact IsInfo.self (by assumption) | exact IsInfo.upd (by assumption) (by assumption) (by first | assumption | (apply Ne.symm; assumption)))) | exact IsInfo.upd (by (first | assumption | exact IsInfo.self (by assumption) | exact IsInfo.upd (by assumption) (by assumption) (by first | assumption | (apply Ne.symm; assumption)))) (by (first | assumption | exact IsInfo.self (by assumption) | exact IsInfo.upd (by assumption) (by assumption) (by first | assumption | (apply Ne.symm; assumption)))) (by first | assumption | (apply Ne.symm; assumption)))), (by simp), rfl, rfl, ?_⟩)
  refine Ss.name (Ex.callF hG bi_min ?_)
  (first
  | ((with_reducible refine' Ss.name ?_ ?h1 ?h2 ?h3); (case h1 => rfl); (case h2 => rfl); (case h3 => rfl))
  | (with_reducible refine' Ss.ret ?_)
  | (with_reducible refine' Ss.ret0 ?_)
  | ((with_reducible refine' Ss.set_xa ?h0 ?_ ?h2); (case h0 => assumption); (case h2 => rfl))
  | ((with_reducible refine' Ss.set_xo ?h0 ?_ ?h2); (case h0 => assumption); (case h2 => rfl))
  | ((with_reducible refine' Ss.set_parent ?h0 ?_ ?h2); (case h0 => assumption); (case h2 => rfl))
  | ((with_reducible refine' Ss.set_un ?h0 ?_ ?h2); (case h0 => assumption); (case h2 => rfl))
  | (with_reducible refine' Ss.cond ?_)
  | (with_reducible refine' Ss.nilA ?_)
  | (with_reducible refine' Ss.nil ?_)
  | (with_reducible refine' Ex.cint ?_)
  | (with_reducible refine' Ex.cstr ?_)
  | (with_reducible refine' Ex.cbool ?_)
  | (with_reducible refine' Ex.cnone ?_)
  | ((with_reducible refine' Ex.name ?h0 ?_ ?h2 ?h3 ?h4); (case h0 => rfl); (case h2 => rfl); (case h3 => rfl); (case h4 => decide))
  | (with_reducible refine' Ex.binop ?_)
  | ((with_reducible refine' Ex.cmp ?_ ?h1); (case h1 => rfl))
  | (with_reducible refine' Ex.neg ?_)
  | ((with_reducible refine' Ex.info ?h0 ?_ ?h2); (case h0 => assumption); (case h2 => rfl))
  | (with_reducible refine' Ex.ite ?_)
  | (with_reducible refine' Ex.or2 ?_)
  | (with_reducible refine' Ex.and2 ?_)
  | (with_reducible refine' Ex.bool1 ?_)
  | ((with_reducible refine' Ts.cmp ?_ ?h1); (case h1 => rfl))
  | (with_reducible refine' Ts.and2 ?_)
  | (with_reducible refine' TrB.and1 ?_)
  | (with_reducible refine' TrB.and0 ?_)
  | (with_reducible refine' TrB.or1 ?_)
  | (with_reducible refine' TrB.or0 ?_)
  | (with_reducible refine' Bo.add ?_)
  | (with_reducible refine' Bo.sub ?_)
  | ((with_reducible refine' Bo.shr ?h0 ?_); (case h0 => decide))
  | (with_reducible refine' Bo.and ?_)
  | (with_reducible refine' Co.eq ?_)
  | (with_reducible refine' Co.ne ?_)
  | (with_reducible refine' Co.lt ?_)
  | (with_reducible refine' Co.le ?_)
  | (with_reducible refine' Co.gt ?_)
  | (with_reducible refine' Co.ge ?_)
  | (with_reducible refine' Co.eqb ?_)
  | (with_reducible refine' Tt.int ?_)
  | (with_reducible refine' Tt.bool ?_)
  | ((with_reducible refine' Ar.cons ?_ ?h1); (case h1 => rfl))
  | (with_reducible refine' Ar.nil ?_)
  | (with_reducible refine' Ex.tup ?_)
  | (with_reducible refine' Ex.list ?_)
  | refine ⟨_, _, _, _, rfl, rfl, (by first | assumption | exact IsInfo.self (by (first | assumption | exact IsInfo.self (by assumption) | exact IsInfo.upd (by assumption) (by assumption) (by first | assumption | (apply Ne.symm; assumption)))) | exact IsInfo.upd (by (first | assumption | exact IsInfo.self (by assumption) | exact IsInfo.upd (by assumption) (by assumption) (by first | assumption | (apply Ne.symm; assumption)))) (by (first | assumption | exact IsInfo.self (by assumption) | exact IsInfo.upd (by assumption) (by assumption) (by first | assumption | (apply Ne.symm; assumption)))) (by first | assumption | (apply Ne.symm; assumption))), ?_⟩
  | refine ⟨_, _, _, _, rfl, (by (first | assumption | exact IsInfo.self (by (first | assumption | exact IsInfo.self (by assumption) | exact IsInfo.upd (by assumption) (by assumption) (by first | assumption | (apply Ne.symm; assumption)))) | exact IsInfo.upd (by (first | assumption | exact IsInfo.self (by assumption) | exact IsInfo.upd (by assumption) (by assumption) (by first | assumption | (apply Ne.symm; assumption)))) (by (first | assumption | exact IsInfo.self (by assumption) | exact IsInfo.upd (by assumption) (by assumption) (by first | assumption | (apply Ne.symm; assumption)))) (by first | assumption | (apply Ne.symm; assumption)))), (by simp), rfl, rfl, ?_⟩)
  refine Ex.comp ?_ (closureFor_none (by decide))
  refine Ex.name rfl ?_
  refine ⟨D, _, _, fun k acc f₂ => f₂ = fset f D (.list (refs T)) ∧ acc = (T.take k).map fun r => iv r.2.2.cluster, rfl, Src.list hA.h (.inl fset_self), by rw [List.length_map]; omega, ⟨rfl, rfl⟩, ?_, ?_, ?_⟩
  · rintro k acc _ ⟨rfl, rfl⟩; exact ⟨.inl fset_self, by rw [List.length_map, List.length_take]; omega⟩
  · rintro k u acc _ C m₀ hu ⟨rfl, rfl⟩
    rw [refs_get] at hu
    obtain ⟨r, hr, rfl⟩ := Option.map_eq_some_iff.mp hu
    have hlt : k < j - i := by rw [← hTl]; exact (List.getElem?_eq_some_iff.mp hr).1
    have hI := (hR.get ((hTg k hlt).symm.trans hr))
    have hI' : IsInfo w (fset f D (.list (refs T))) r.1 r.2.1 r.2.2 := ⟨Ext.new (M := []) hD _ _ hI.1 (by simp), Ext.new (M := []) hD _ _ hI.2 (by simp)⟩
    refine tests0 ?_
    rw [if_pos rfl]
    (first
  | ((with_reducible refine' Ss.name ?_ ?h1 ?h2 ?h3); (case h1 => rfl); (case h2 => rfl); (case h3 => rfl))
  | (with_reducible refine' Ss.ret ?_)
  | (with_reducible refine' Ss.ret0 ?_)
  | ((with_reducible refine' Ss.set_xa ?h0 ?_ ?h2); (case h0 => assumption); (case h2 => rfl))
  | ((with_reducible refine' Ss.set_xo ?h0 ?_ ?h2); (case h0 => assumption); (case h2 => rfl))
  | ((with_reducible refine' Ss.set_parent ?h0 ?_ ?h2); (case h0 => assumption); (case h2 => rfl))
  | ((with_reducible refine' Ss.set_un ?h0 ?_ ?h2); (case h0 => assumption); (case h2 => rfl))
  | (with_reducible refine' Ss.cond ?_)
  | (with_reducible refine' Ss.nilA ?_)
  | (with_reducible refine' Ss.nil ?_)
  | (with_reducible refine' Ex.cint ?_)
  | (with_reducible refine' Ex.cstr ?_)
  | (with_reducible refine' Ex.cbool ?_)
  | (with_reducible refine' Ex.cnone ?_)
  | ((with_reducible refine' Ex.name ?h0 ?_ ?h2 ?h3 ?h4); (case h0 => rfl); (case h2 => rfl); (case h3 => rfl); (case h4 => decide))
  | (with_reducible refine' Ex.binop ?_)
  | ((with_reducible refine' Ex.cmp ?_ ?h1); (case h1 => rfl))
  | (with_reducible refine' Ex.neg ?_)
  | ((with_reducible refine' Ex.info ?h0 ?_ ?h2); (case h0 => assumption); (case h2 => rfl))
  | (with_reducible refine' Ex.ite ?_)
  | (with_reducible refine' Ex.or2 ?_)
  | (with_reducible refine' Ex.and2 ?_)
  | (with_reducible refine' Ex.bool1 ?_)
  | ((with_reducible refine' Ts.cmp ?_ ?h1); (case h1 => rfl))
  | (with_reducible refine' Ts.and2 ?_)
  | (with_reducible refine' TrB.and1 ?_)
  | (with_reducible refine' TrB.and0 ?_)
  | (with_reducible refine' TrB.or1 ?_)
  | (with_reducible refine' TrB.or0 ?_)
  | (with_reducible refine' Bo.add ?_)
  | (with_reducible refine' Bo.sub ?_)
  | ((with_reducible refine' Bo.shr ?h0 ?_); (case h0 => decide))
  | (with_reducible refine' Bo.and ?_)
  | (with_reducible refine' Co.eq ?_)
  | (with_reducible refine' Co.ne ?_)
  | (with_reducible refine' Co.lt ?_)
  | (with_reducible refine' Co.le ?_)
  | (with_reducible refine' Co.gt ?_)
  | (with_reducible refine' Co.ge ?_)
  | (with_reducible refine' Co.eqb ?_)
  | (with_reducible refine' Tt.int ?_)
  | (with_reducible refine' Tt.bool ?_)
  | ((with_reducible refine' Ar.cons ?_ ?h1); (case h1 => rfl))
  | (with_reducible refine' Ar.nil ?_)
  | (with_reducible refine' Ex.tup ?_)
  | (with_reducible refine' Ex.list ?_)
  | refine ⟨_, _, _, _, rfl, rfl, (by first | assumption | exact IsInfo.self (by (first | assumption | exact IsInfo.self (by assumption) | exact IsInfo.upd (by assumption) (by assumption) (by first | assumption | (apply Ne.symm; assumption)))) | exact IsInfo.upd (by (first | assumption | exact IsInfo.self (by assumption) | exact IsInfo.upd (by assumption) (by assumption) (by first | assumption | (apply Ne.symm; assumption)))) (by (first | assumption | exact IsInfo.self (by assumption) | exact IsInfo.upd (by assumption) (by assumption) (by first | assumption | (apply Ne.symm; assumption)))) (by first | assumption | (apply Ne.symm; assumption))), ?_⟩
  | refine ⟨_, _, _, _, rfl, (by (first | assumption | exact IsInfo.self (by (first | assumption | exact IsInfo.self (by assumption) | exact IsInfo.upd (by assumption) (by assumption) (by first | assumption | (apply Ne.symm; assumption)))) | exact IsInfo.upd (by (first | assumption | exact IsInfo.self (by assumption) | exact IsInfo.upd (by assumption) (by assumption) (by first | assumption | (apply Ne.symm; assumption)))) (by (first | assumption | exact IsInfo.self (by assumption) | exact IsInfo.upd (by assumption) (by assumption) (by first | assumption | (apply Ne.symm; assumption)))) (by first | assumption | (apply Ne.symm; assumption)))), (by simp), rfl, rfl, ?_⟩)
    (first
  | ((with_reducible refine' Ss.name ?_ ?h1 ?h2 ?h3); (case h1 => rfl); (case h2 => rfl); (case h3 => rfl))
  | (with_reducible refine' Ss.ret ?_)
  | (with_reducible refine' Ss.ret0 ?_)
  | ((with_reducible refine' Ss.set_xa ?h0 ?_ ?h2); (case h0 => assumption); (case h2 => rfl))
  | ((with_reducible refine' Ss.set_xo ?h0 ?_ ?h2); (case h0 => assumption); (case h2 => rfl))
  | ((with_reducible refine' Ss.set_parent ?h0 ?_ ?h2); (case h0 => assumption); (case h2 => rfl))
  | ((with_reducible refine' Ss.set_un ?h0 ?_ ?h2); (case h0 => assumption); (case h2 => rfl))
  | (with_reducible refine' Ss.cond ?_)
  | (with_reducible refine' Ss.nilA ?_)
  | (with_reducible refine' Ss.nil ?_)
  | (with_reducible refine' Ex.cint ?_)
  | (with_reducible refine' Ex.cstr ?_)
  | (with_reducible refine' Ex.cbool ?_)
  | (with_reducible refine' Ex.cnone ?_)
  | ((with_reducible refine' Ex.name ?h0 ?_ ?h2 ?h3 ?h4); (case h0 => rfl); (case h2 => rfl); (case h3 => rfl); (case h4 => decide))
  | (with_reducible refine' Ex.binop ?_)
  | ((with_reducible refine' Ex.cmp ?_ ?h1); (case h1 => rfl))
  | (with_reducible refine' Ex.neg ?_)
  | ((with_reducible refine' Ex.info ?h0 ?_ ?h2); (case h0 => assumption); (case h2 => rfl))
  | (with_reducible refine' Ex.ite ?_)
  | (with_reducible refine' Ex.or2 ?_)
  | (with_reducible refine' Ex.and2 ?_)
  | (with_reducible refine' Ex.bool1 ?_)
  | ((with_reducible refine' Ts.cmp ?_ ?h1); (case h1 => rfl))
  | (with_reducible refine' Ts.and2 ?_)
  | (with_reducible refine' TrB.and1 ?_)
  | (with_reducible refine' TrB.and0 ?_)
  | (with_reducible refine' TrB.or1 ?_)
  | (with_reducible refine' TrB.or0 ?_)
  | (with_reducible refine' Bo.add ?_)
  | (with_reducible refine' Bo.sub ?_)
  | ((with_reducible refine' Bo.shr ?h0 ?_); (case h0 => decide))
  | (with_reducible refine' Bo.and ?_)
  | (with_reducible refine' Co.eq ?_)
  | (with_reducible refine' Co.ne ?_)
  | (with_reducible refine' Co.lt ?_)
  | (with_reducible refine' Co.le ?_)
  | (with_reducible refine' Co.gt ?_)
  | (with_reducible refine' Co.ge ?_)
  | (with_reducible refine' Co.eqb ?_)
  | (with_reducible refine' Tt.int ?_)
  | (with_reducible refine' Tt.bool ?_)
  | ((with_reducible refine' Ar.cons ?_ ?h1); (case h1 => rfl))
  | (with_reducible refine' Ar.nil ?_)
  | (with_reducible refine' Ex.tup ?_)
  | (with_reducible refine' Ex.list ?_)
  | refine ⟨_, _, _, _, rfl, rfl, (by first | assumption | exact IsInfo.self (by (first | assumption | exact IsInfo.self (by assumption) | exact IsInfo.upd (by assumption) (by assumption) (by first | assumption | (apply Ne.symm; assumption)))) | exact IsInfo.upd (by (first | assumption | exact IsInfo.self (by assumption) | exact IsInfo.upd (by assumption) (by assumption) (by first | assumption | (apply Ne.symm; assumption)))) (by (first | assumption | exact IsInfo.self (by assumption) | exact IsInfo.upd (by assumption) (by assumption) (by first | assumption | (apply Ne.symm; assumption)))) (by first | assumption | (apply Ne.symm; assumption))), ?_⟩
  | refine ⟨_, _, _, _, rfl, (by (first | assumption | exact IsInfo.self (by (first | assumption | exact IsInfo.self (by assumption) | exact IsInfo.upd (by assumption) (by assumption) (by first | assumption | (apply Ne.symm; assumption)))) | exact IsInfo.upd (by (first | assumption | exact IsInfo.self (by assumption) | exact IsInfo.upd (by assumption) (by assumption) (by first | assumption | (apply Ne.symm; assumption)))) (by (first | assumption | exact IsInfo.self (by assumption) | exact IsInfo.upd (by assumption) (by assumption) (by first | assumption | (apply Ne.symm; assumption)))) (by first | assumption | (apply Ne.symm; assumption)))), (by simp), rfl, rfl, ?_⟩)
    (first
  | ((with_reducible refine' Ss.name ?_ ?h1 ?h2 ?h3); (case h1 => rfl); (case h2 => rfl); (case h3 => rfl))
  | (with_reducible refine' Ss.ret ?_)
  | (with_reducible refine' Ss.ret0 ?_)
  | ((with_reducible refine' Ss.set_xa ?h0 ?_ ?h2); (case h0 => assumption); (case h2 => rfl))
  | ((with_reducible refine' Ss.set_xo ?h0 ?_ ?h2); (case h0 => assumption); (case h2 => rfl))
  | ((with_reducible refine' Ss.set_parent ?h0 ?_ ?h2); (case h0 => assumption); (case h2 => rfl))
  | ((with_reducible refine' Ss.set_un ?h0 ?_ ?h2); (case h0 => assumption); (case h2 => rfl))
  | (with_reducible refine' Ss.cond ?_)
  | (with_reducible refine' Ss.nilA ?_)
  | (with_reducible refine' Ss.nil ?_)
  | (with_reducible refine' Ex.cint ?_)
  | (with_reducible refine' Ex.cstr ?_)
  | (with_reducible refine' Ex.cbool ?_)
  | (with_reducible refine' Ex.cnone ?_)
  | ((with_reducible refine' Ex.name ?h0 ?_ ?h2 ?h3 ?h4); (case h0 => rfl); (case h2 => rfl); (case h3 => rfl); (case h4 => decide))
  | (with_reducible refine' Ex.binop ?_)
  | ((with_reducible refine' Ex.cmp ?_ ?h1); (case h1 => rfl))
  | (with_reducible refine' Ex.neg ?_)
  | ((with_reducible refine' Ex.info ?h0 ?_ ?h2); (case h0 => assumption); (case h2 => rfl))
  | (with_reducible refine' Ex.ite ?_)
  | (with_reducible refine' Ex.or2 ?_)
  | (with_reducible refine' Ex.and2 ?_)
  | (with_reducible refine' Ex.bool1 ?_)
  | ((with_reducible refine' Ts.cmp ?_ ?h1); (case h1 => rfl))
  | (with_reducible refine' Ts.and2 ?_)
  | (with_reducible refine' TrB.and1 ?_)
  | (with_reducible refine' TrB.and0 ?_)
  | (with_reducible refine' TrB.or1 ?_)
  | (with_reducible refine' TrB.or0 ?_)
  | (with_reducible refine' Bo.add ?_)
  | (with_reducible refine' Bo.sub ?_)
  | ((with_reducible refine' Bo.shr ?h0 ?_); (case h0 => decide))
  | (with_reducible refine' Bo.and ?_)
  | (with_reducible refine' Co.eq ?_)
  | (with_reducible refine' Co.ne ?_)
  | (with_reducible refine' Co.lt ?_)
  | (with_reducible refine' Co.le ?_)
  | (with_reducible refine' Co.gt ?_)
  | (with_reducible refine' Co.ge ?_)
  | (with_reducible refine' Co.eqb ?_)
  | (with_reducible refine' Tt.int ?_)
  | (with_reducible refine' Tt.bool ?_)
  | ((with_reducible refine' Ar.cons ?_ ?h1); (case h1 => rfl))
  | (with_reducible refine' Ar.nil ?_)
  | (with_reducible refine' Ex.tup ?_)
  | (with_reducible refine' Ex.list ?_)
  | refine ⟨_, _, _, _, rfl, rfl, (by first | assumption | exact IsInfo.self (by (first | assumption | exact IsInfo.self (by assumption) | exact IsInfo.upd (by assumption) (by assumption) (by first | assumption | (apply Ne.symm; assumption)))) | exact IsInfo.upd (by (first | assumption | exact IsInfo.self (by assumption) | exact IsInfo.upd (by assumption) (by assumption) (by first | assumption | (apply Ne.symm; assumption)))) (by (first | assumption | exact IsInfo.self (by assumption) | exact IsInfo.upd (by assumption) (by assumption) (by first | assumption | (apply Ne.symm; assumption)))) (by first | assumption | (apply Ne.symm; assumption))), ?_⟩
  | refine ⟨_, _, _, _, rfl, (by (first | assumption | exact IsInfo.self (by (first | assumption | exact IsInfo.self (by assumption) | exact IsInfo.upd (by assumption) (by assumption) (by first | assumption | (apply Ne.symm; assumption)))) | exact IsInfo.upd (by (first | assumption | exact IsInfo.self (by assumption) | exact IsInfo.upd (by assumption) (by assumption) (by first | assumption | (apply Ne.symm; assumption)))) (by (first | assumption | exact IsInfo.self (by assumption) | exact IsInfo.upd (by assumption) (by assumption) (by first | assumption | (apply Ne.symm; assumption)))) (by first | assumption | (apply Ne.symm; assumption)))), (by simp), rfl, rfl, ?_⟩)
    exact ⟨rfl, by rw [List.take_add_one, hr]; simp⟩
  rintro acc _ ⟨rfl, rfl⟩ D₂ hD₂
  rw [List.take_of_length_le (by rw [List.length_map]; exact Nat.le_refl _)]
  refine Ar.nil (Ca.min hA.h (ns := T.map fun r => r.2.2.cluster) (.inl (by rw [fset_self, List.map_map]; rfl)) (by rw [List.length_map]; omega) fun M hM hle => ?_)
  have hD₂D : D₂ ≠ D := by rintro rfl; rw [fset_self] at hD₂; cases hD₂
  have hfD₂ : f D₂ = none := by rw [fset_ne hD₂D] at hD₂; exact hD₂
  refine Ss.cons (St1.for (Ex.name rfl ?_))
  refine ⟨D, refs T, _, fun k m₁ f₂ => m₁ "least_cluster" = some (iv M) ∧ Ext (Ds R) f f₂ ∧ IsL f₂ D (refs T) ∧ Row w f₂ (upd (hangG i (i + k) M) R), rfl, Src.list hA.h ?_, ⟨rfl, ?_, ?_, ?_⟩, fun _ _ _ q => q.2.2.1, ?_, ?_⟩
  · exact .inl (by rw [fset_ne hD₂D.symm, fset_self])
  · exact (Ext.new hD).trans (Ext.new hD₂)
  · exact .inl (by rw [fset_ne hD₂D.symm, fset_self])
  · rw [upd_id (fun n r _ => by unfold hangG; rw [if_neg (by omega)])]
    exact hR.ext ((Ext.new hD).trans (Ext.new hD₂)) fun r _ => ⟨List.not_mem_nil, List.not_mem_nil⟩
  · rintro k u m₁ f₂ hu ⟨hm, hE, hL, hR₂⟩
    rw [refs_get] at hu
    obtain ⟨r, hr, rfl⟩ := Option.map_eq_some_iff.mp hu
    have hlt : k < j - i := by rw [← hTl]; exact (List.getElem?_eq_some_iff.mp hr).1
    have hrR := (hTg k hlt).symm.trans hr
    have hI := hR₂.get (n := i + k) (r := (r.1, r.2.1, r.2.2)) (by rw [upd_get, hrR]; unfold hangG; simp)
    refine Ss.cond (Ts.cmp ?_)
    (first
  | ((with_reducible refine' Ss.name ?_ ?h1 ?h2 ?h3); (case h1 => rfl); (case h2 => rfl); (case h3 => rfl))
  | (with_reducible refine' Ss.ret ?_)
  | (with_reducible refine' Ss.ret0 ?_)
  | ((with_reducible refine' Ss.set_xa ?h0 ?_ ?h2); (case h0 => assumption); (case h2 => rfl))
  | ((with_reducible refine' Ss.set_xo ?h0 ?_ ?h2); (case h0 => assumption); (case h2 => rfl))
  | ((with_reducible refine' Ss.set_parent ?h0 ?_ ?h2); (case h0 => assumption); (case h2 => rfl))
  | ((with_reducible refine' Ss.set_un ?h0 ?_ ?h2); (case h0 => assumption); (case h2 => rfl))
  | (with_reducible refine' Ss.cond ?_)
  | (with_reducible refine' Ss.nilA ?_)
  | (with_reducible refine' Ss.nil ?_)
  | (with_reducible refine' Ex.cint ?_)
  | (with_reducible refine' Ex.cstr ?_)
  | (with_reducible refine' Ex.cbool ?_)
  | (with_reducible refine' Ex.cnone ?_)
  | ((with_reducible refine' Ex.name ?h0 ?_ ?h2 ?h3 ?h4); (case h0 => rfl); (case h2 => rfl); (case h3 => rfl); (case h4 => decide))
  | (with_reducible refine' Ex.binop ?_)
  | ((with_reducible refine' Ex.cmp ?_ ?h1); (case h1 => rfl))
  | (with_reducible refine' Ex.neg ?_)
  | ((with_reducible refine' Ex.info ?h0 ?_ ?h2); (case h0 => assumption); (case h2 => rfl))
  | (with_reducible refine' Ex.ite ?_)
  | (with_reducible refine' Ex.or2 ?_)
  | (with_reducible refine' Ex.and2 ?_)
  | (with_reducible refine' Ex.bool1 ?_)
  | ((with_reducible refine' Ts.cmp ?_ ?h1); (case h1 => rfl))
  | (with_reducible refine' Ts.and2 ?_)
  | (with_reducible refine' TrB.and1 ?_)
  | (with_reducible refine' TrB.and0 ?_)
  | (with_reducible refine' TrB.or1 ?_)
  | (with_reducible refine' TrB.or0 ?_)
  | (with_reducible refine' Bo.add ?_)
  | (with_reducible refine' Bo.sub ?_)
  | ((with_reducible refine' Bo.shr ?h0 ?_); (case h0 => decide))
  | (with_reducible refine' Bo.and ?_)
  | (with_reducible refine' Co.eq ?_)
  | (with_reducible refine' Co.ne ?_)
  | (with_reducible refine' Co.lt ?_)
  | (with_reducible refine' Co.le ?_)
  | (with_reducible refine' Co.gt ?_)
  | (with_reducible refine' Co.ge ?_)
  | (with_reducible refine' Co.eqb ?_)
  | (with_reducible refine' Tt.int ?_)
  | (with_reducible refine' Tt.bool ?_)
  | ((with_reducible refine' Ar.cons ?_ ?h1); (case h1 => rfl))
  | (with_reducible refine' Ar.nil ?_)
  | (with_reducible refine' Ex.tup ?_)
  | (with_reducible refine' Ex.list ?_)
  | refine ⟨_, _, _, _, rfl, rfl, (by first | assumption | exact IsInfo.self (by (first | assumption | exact IsInfo.self (by assumption) | exact IsInfo.upd (by assumption) (by assumption) (by first | assumption | (apply Ne.symm; assumption)))) | exact IsInfo.upd (by (first | assumption | exact IsInfo.self (by assumption) | exact IsInfo.upd (by assumption) (by assumption) (by first | assumption | (apply Ne.symm; assumption)))) (by (first | assumption | exact IsInfo.self (by assumption) | exact IsInfo.upd (by assumption) (by assumption) (by first | assumption | (apply Ne.symm; assumption)))) (by first | assumption | (apply Ne.symm; assumption))), ?_⟩
  | refine ⟨_, _, _, _, rfl, (by (first | assumption | exact IsInfo.self (by (first | assumption | exact IsInfo.self (by assumption) | exact IsInfo.upd (by assumption) (by assumption) (by first | assumption | (apply Ne.symm; assumption)))) | exact IsInfo.upd (by (first | assumption | exact IsInfo.self (by assumption) | exact IsInfo.upd (by assumption) (by assumption) (by first | assumption | (apply Ne.symm; assumption)))) (by (first | assumption | exact IsInfo.self (by assumption) | exact IsInfo.upd (by assumption) (by assumption) (by first | assumption | (apply Ne.symm; assumption)))) (by first | assumption | (apply Ne.symm; assumption)))), (by simp), rfl, rfl, ?_⟩)
    (first
  | ((with_reducible refine' Ss.name ?_ ?h1 ?h2 ?h3); (case h1 => rfl); (case h2 => rfl); (case h3 => rfl))
  | (with_reducible refine' Ss.ret ?_)
  | (with_reducible refine' Ss.ret0 ?_)
  | ((with_reducible refine' Ss.set_xa ?h0 ?_ ?h2); (case h0 => assumption); (case h2 => rfl))
  | ((with_reducible refine' Ss.set_xo ?h0 ?_ ?h2); (case h0 => assumption); (case h2 => rfl))
  | ((with_reducible refine' Ss.set_parent ?h0 ?_ ?h2); (case h0 => assumption); (case h2 => rfl))
  | ((with_reducible refine' Ss.set_un ?h0 ?_ ?h2); (case h0 => assumption); (case h2 => rfl))
  | (with_reducible refine' Ss.cond ?_)
  | (with_reducible refine' Ss.nilA ?_)
  | (with_reducible refine' Ss.nil ?_)
  | (with_reducible refine' Ex.cint ?_)
  | (with_reducible refine' Ex.cstr ?_)
  | (with_reducible refine' Ex.cbool ?_)
  | (with_reducible refine' Ex.cnone ?_)
  | ((with_reducible refine' Ex.name ?h0 ?_ ?h2 ?h3 ?h4); (case h0 => rfl); (case h2 => rfl); (case h3 => rfl); (case h4 => decide))
  | (with_reducible refine' Ex.binop ?_)
  | ((with_reducible refine' Ex.cmp ?_ ?h1); (case h1 => rfl))
  | (with_reducible refine' Ex.neg ?_)
  | ((with_reducible refine' Ex.info ?h0 ?_ ?h2); (case h0 => assumption); (case h2 => rfl))
  | (with_reducible refine' Ex.ite ?_)
  | (with_reducible refine' Ex.or2 ?_)
  | (with_reducible refine' Ex.and2 ?_)
  | (with_reducible refine' Ex.bool1 ?_)
  | ((with_reducible refine' Ts.cmp ?_ ?h1); (case h1 => rfl))
  | (with_reducible refine' Ts.and2 ?_)
  | (with_reducible refine' TrB.and1 ?_)
  | (with_reducible refine' TrB.and0 ?_)
  | (with_reducible refine' TrB.or1 ?_)
  | (with_reducible refine' TrB.or0 ?_)
  | (with_reducible refine' Bo.add ?_)
  | (with_reducible refine' Bo.sub ?_)
  | ((with_reducible refine' Bo.shr ?h0 ?_); (case h0 => decide))
  | (with_reducible refine' Bo.and ?_)
  | (with_reducible refine' Co.eq ?_)
  | (with_reducible refine' Co.ne ?_)
  | (with_reducible refine' Co.lt ?_)
  | (with_reducible refine' Co.le ?_)
  | (with_reducible refine' Co.gt ?_)
  | (with_reducible refine' Co.ge ?_)
  | (with_reducible refine' Co.eqb ?_)
  | (with_reducible refine' Tt.int ?_)
  | (with_reducible refine' Tt.bool ?_)
  | ((with_reducible refine' Ar.cons ?_ ?h1); (case h1 => rfl))
  | (with_reducible refine' Ar.nil ?_)
  | (with_reducible refine' Ex.tup ?_)
  | (with_reducible refine' Ex.list ?_)
  | refine ⟨_, _, _, _, rfl, rfl, (by first | assumption | exact IsInfo.self (by (first | assumption | exact IsInfo.self (by assumption) | exact IsInfo.upd (by assumption) (by assumption) (by first | assumption | (apply Ne.symm; assumption)))) | exact IsInfo.upd (by (first | assumption | exact IsInfo.self (by assumption) | exact IsInfo.upd (by assumption) (by assumption) (by first | assumption | (apply Ne.symm; assumption)))) (by (first | assumption | exact IsInfo.self (by assumption) | exact IsInfo.upd (by assumption) (by assumption) (by first | assumption | (apply Ne.symm; assumption)))) (by first | assumption | (apply Ne.symm; assumption))), ?_⟩
  | refine ⟨_, _, _, _, rfl, (by (first | assumption | exact IsInfo.self (by (first | assumption | exact IsInfo.self (by assumption) | exact IsInfo.upd (by assumption) (by assumption) (by first | assumption | (apply Ne.symm; assumption)))) | exact IsInfo.upd (by (first | assumption | exact IsInfo.self (by assumption) | exact IsInfo.upd (by assumption) (by assumption) (by first | assumption | (apply Ne.symm; assumption)))) (by (first | assumption | exact IsInfo.self (by assumption) | exact IsInfo.upd (by assumption) (by assumption) (by first | assumption | (apply Ne.symm; assumption)))) (by first | assumption | (apply Ne.symm; assumption)))), (by simp), rfl, rfl, ?_⟩)
    (first
  | ((with_reducible refine' Ss.name ?_ ?h1 ?h2 ?h3); (case h1 => rfl); (case h2 => rfl); (case h3 => rfl))
  | (with_reducible refine' Ss.ret ?_)
  | (with_reducible refine' Ss.ret0 ?_)
  | ((with_reducible refine' Ss.set_xa ?h0 ?_ ?h2); (case h0 => assumption); (case h2 => rfl))
  | ((with_reducible refine' Ss.set_xo ?h0 ?_ ?h2); (case h0 => assumption); (case h2 => rfl))
  | ((with_reducible refine' Ss.set_parent ?h0 ?_ ?h2); (case h0 => assumption); (case h2 => rfl))
  | ((with_reducible refine' Ss.set_un ?h0 ?_ ?h2); (case h0 => assumption); (case h2 => rfl))
  | (with_reducible refine' Ss.cond ?_)
  | (with_reducible refine' Ss.nilA ?_)
  | (with_reducible refine' Ss.nil ?_)
  | (with_reducible refine' Ex.cint ?_)
  | (with_reducible refine' Ex.cstr ?_)
  | (with_reducible refine' Ex.cbool ?_)
  | (with_reducible refine' Ex.cnone ?_)
  | ((with_reducible refine' Ex.name ?h0 ?_ ?h2 ?h3 ?h4); (case h0 => rfl); (case h2 => rfl); (case h3 => rfl); (case h4 => decide))
  | (with_reducible refine' Ex.binop ?_)
  | ((with_reducible refine' Ex.cmp ?_ ?h1); (case h1 => rfl))
  | (with_reducible refine' Ex.neg ?_)
  | ((with_reducible refine' Ex.info ?h0 ?_ ?h2); (case h0 => assumption); (case h2 => rfl))
  | (with_reducible refine' Ex.ite ?_)
  | (with_reducible refine' Ex.or2 ?_)
  | (with_reducible refine' Ex.and2 ?_)
  | (with_reducible refine' Ex.bool1 ?_)
  | ((with_reducible refine' Ts.cmp ?_ ?h1); (case h1 => rfl))
  | (with_reducible refine' Ts.and2 ?_)
  | (with_reducible refine' TrB.and1 ?_)
  | (with_reducible refine' TrB.and0 ?_)
  | (with_reducible refine' TrB.or1 ?_)
  | (with_reducible refine' TrB.or0 ?_)
  | (with_reducible refine' Bo.add ?_)
  | (with_reducible refine' Bo.sub ?_)
  | ((with_reducible refine' Bo.shr ?h0 ?_); (case h0 => decide))
  | (with_reducible refine' Bo.and ?_)
  | (with_reducible refine' Co.eq ?_)
  | (with_reducible refine' Co.ne ?_)
  | (with_reducible refine' Co.lt ?_)
  | (with_reducible refine' Co.le ?_)
  | (with_reducible refine' Co.gt ?_)
  | (with_reducible refine' Co.ge ?_)
  | (with_reducible refine' Co.eqb ?_)
  | (with_reducible refine' Tt.int ?_)
  | (with_reducible refine' Tt.bool ?_)
  | ((with_reducible refine' Ar.cons ?_ ?h1); (case h1 => rfl))
  | (with_reducible refine' Ar.nil ?_)
  | (with_reducible refine' Ex.tup ?_)
  | (with_reducible refine' Ex.list ?_)
  | refine ⟨_, _, _, _, rfl, rfl, (by first | assumption | exact IsInfo.self (by (first | assumption | exact IsInfo.self (by assumption) | exact IsInfo.upd (by assumption) (by assumption) (by first | assumption | (apply Ne.symm; assumption)))) | exact IsInfo.upd (by (first | assumption | exact IsInfo.self (by assumption) | exact IsInfo.upd (by assumption) (by assumption) (by first | assumption | (apply Ne.symm; assumption)))) (by (first | assumption | exact IsInfo.self (by assumption) | exact IsInfo.upd (by assumption) (by assumption) (by first | assumption | (apply Ne.symm; assumption)))) (by first | assumption | (apply Ne.symm; assumption))), ?_⟩
  | refine ⟨_, _, _, _, rfl, (by (first | assumption | exact IsInfo.self (by (first | assumption | exact IsInfo.self (by assumption) | exact IsInfo.upd (by assumption) (by assumption) (by first | assumption | (apply Ne.symm; assumption)))) | exact IsInfo.upd (by (first | assumption | exact IsInfo.self (by assumption) | exact IsInfo.upd (by assumption) (by assumption) (by first | assumption | (apply Ne.symm; assumption)))) (by (first | assumption | exact IsInfo.self (by assumption) | exact IsInfo.upd (by assumption) (by assumption) (by first | assumption | (apply Ne.symm; assumption)))) (by first | assumption | (apply Ne.symm; assumption)))), (by simp), rfl, rfl, ?_⟩)
    refine Ex.name (v := iv M) hm ?_
    (first
  | ((with_reducible refine' Ss.name ?_ ?h1 ?h2 ?h3); (case h1 => rfl); (case h2 => rfl); (case h3 => rfl))
  | (with_reducible refine' Ss.ret ?_)
  | (with_reducible refine' Ss.ret0 ?_)
  | ((with_reducible refine' Ss.set_xa ?h0 ?_ ?h2); (case h0 => assumption); (case h2 => rfl))
  | ((with_reducible refine' Ss.set_xo ?h0 ?_ ?h2); (case h0 => assumption); (case h2 => rfl))
  | ((with_reducible refine' Ss.set_parent ?h0 ?_ ?h2); (case h0 => assumption); (case h2 => rfl))
  | ((with_reducible refine' Ss.set_un ?h0 ?_ ?h2); (case h0 => assumption); (case h2 => rfl))
  | (with_reducible refine' Ss.cond ?_)
  | (with_reducible refine' Ss.nilA ?_)
  | (with_reducible refine' Ss.nil ?_)
  | (with_reducible refine' Ex.cint ?_)
  | (with_reducible refine' Ex.cstr ?_)
  | (with_reducible refine' Ex.cbool ?_)
  | (with_reducible refine' Ex.cnone ?_)
  | ((with_reducible refine' Ex.name ?h0 ?_ ?h2 ?h3 ?h4); (case h0 => rfl); (case h2 => rfl); (case h3 => rfl); (case h4 => decide))
  | (with_reducible refine' Ex.binop ?_)
  | ((with_reducible refine' Ex.cmp ?_ ?h1); (case h1 => rfl))
  | (with_reducible refine' Ex.neg ?_)
  | ((with_reducible refine' Ex.info ?h0 ?_ ?h2); (case h0 => assumption); (case h2 => rfl))
  | (with_reducible refine' Ex.ite ?_)
  | (with_reducible refine' Ex.or2 ?_)
  | (with_reducible refine' Ex.and2 ?_)
  | (with_reducible refine' Ex.bool1 ?_)
  | ((with_reducible refine' Ts.cmp ?_ ?h1); (case h1 => rfl))
  | (with_reducible refine' Ts.and2 ?_)
  | (with_reducible refine' TrB.and1 ?_)
  | (with_reducible refine' TrB.and0 ?_)
  | (with_reducible refine' TrB.or1 ?_)
  | (with_reducible refine' TrB.or0 ?_)
  | (with_reducible refine' Bo.add ?_)
  | (with_reducible refine' Bo.sub ?_)
  | ((with_reducible refine' Bo.shr ?h0 ?_); (case h0 => decide))
  | (with_reducible refine' Bo.and ?_)
  | (with_reducible refine' Co.eq ?_)
  | (with_reducible refine' Co.ne ?_)
  | (with_reducible refine' Co.lt ?_)
  | (with_reducible refine' Co.le ?_)
  | (with_reducible refine' Co.gt ?_)
  | (with_reducible refine' Co.ge ?_)
  | (with_reducible refine' Co.eqb ?_)
  | (with_reducible refine' Tt.int ?_)
  | (with_reducible refine' Tt.bool ?_)
  | ((with_reducible refine' Ar.cons ?_ ?h1); (case h1 => rfl))
  | (with_reducible refine' Ar.nil ?_)
  | (with_reducible refine' Ex.tup ?_)
  | (with_reducible refine' Ex.list ?_)
  | refine ⟨_, _, _, _, rfl, rfl, (by first | assumption | exact IsInfo.self (by (first | assumption | exact IsInfo.self (by assumption) | exact IsInfo.upd (by assumption) (by assumption) (by first | assumption | (apply Ne.symm; assumption)))) | exact IsInfo.upd (by (first | assumption | exact IsInfo.self (by assumption) | exact IsInfo.upd (by assumption) (by assumption) (by first | assumption | (apply Ne.symm; assumption)))) (by (first | assumption | exact IsInfo.self (by assumption) | exact IsInfo.upd (by assumption) (by assumption) (by first | assumption | (apply Ne.symm; assumption)))) (by first | assumption | (apply Ne.symm; assumption))), ?_⟩
  | refine ⟨_, _, _, _, rfl, (by (first | assumption | exact IsInfo.self (by (first | assumption | exact IsInfo.self (by assumption) | exact IsInfo.upd (by assumption) (by assumption) (by first | assumption | (apply Ne.symm; assumption)))) | exact IsInfo.upd (by (first | assumption | exact IsInfo.self (by assumption) | exact IsInfo.upd (by assumption) (by assumption) (by first | assumption | (apply Ne.symm; assumption)))) (by (first | assumption | exact IsInfo.self (by assumption) | exact IsInfo.upd (by assumption) (by assumption) (by first | assumption | (apply Ne.symm; assumption)))) (by first | assumption | (apply Ne.symm; assumption)))), (by simp), rfl, rfl, ?_⟩)
    refine ⟨_, rfl, ?_⟩
    by_cases hc : r.2.2.cluster = M
    · rw [if_neg (by simpa using hc)]
      (first
  | ((with_reducible refine' Ss.name ?_ ?h1 ?h2 ?h3); (case h1 => rfl); (case h2 => rfl); (case h3 => rfl))
  | (with_reducible refine' Ss.ret ?_)
  | (with_reducible refine' Ss.ret0 ?_)
  | ((with_reducible refine' Ss.set_xa ?h0 ?_ ?h2); (case h0 => assumption); (case h2 => rfl))
  | ((with_reducible refine' Ss.set_xo ?h0 ?_ ?h2); (case h0 => assumption); (case h2 => rfl))
  | ((with_reducible refine' Ss.set_parent ?h0 ?_ ?h2); (case h0 => assumption); (case h2 => rfl))
  | ((with_reducible refine' Ss.set_un ?h0 ?_ ?h2); (case h0 => assumption); (case h2 => rfl))
  | (with_reducible refine' Ss.cond ?_)
  | (with_reducible refine' Ss.nilA ?_)
  | (with_reducible refine' Ss.nil ?_)
  | (with_reducible refine' Ex.cint ?_)
  | (with_reducible refine' Ex.cstr ?_)
  | (with_reducible refine' Ex.cbool ?_)
  | (with_reducible refine' Ex.cnone ?_)
  | ((with_reducible refine' Ex.name ?h0 ?_ ?h2 ?h3 ?h4); (case h0 => rfl); (case h2 => rfl); (case h3 => rfl); (case h4 => decide))
  | (with_reducible refine' Ex.binop ?_)
  | ((with_reducible refine' Ex.cmp ?_ ?h1); (case h1 => rfl))
  | (with_reducible refine' Ex.neg ?_)
  | ((with_reducible refine' Ex.info ?h0 ?_ ?h2); (case h0 => assumption); (case h2 => rfl))
  | (with_reducible refine' Ex.ite ?_)
  | (with_reducible refine' Ex.or2 ?_)
  | (with_reducible refine' Ex.and2 ?_)
  | (with_reducible refine' Ex.bool1 ?_)
  | ((with_reducible refine' Ts.cmp ?_ ?h1); (case h1 => rfl))
  | (with_reducible refine' Ts.and2 ?_)
  | (with_reducible refine' TrB.and1 ?_)
  | (with_reducible refine' TrB.and0 ?_)
  | (with_reducible refine' TrB.or1 ?_)
  | (with_reducible refine' TrB.or0 ?_)
  | (with_reducible refine' Bo.add ?_)
  | (with_reducible refine' Bo.sub ?_)
  | ((with_reducible refine' Bo.shr ?h0 ?_); (case h0 => decide))
  | (with_reducible refine' Bo.and ?_)
  | (with_reducible refine' Co.eq ?_)
  | (with_reducible refine' Co.ne ?_)
  | (with_reducible refine' Co.lt ?_)
  | (with_reducible refine' Co.le ?_)
  | (with_reducible refine' Co.gt ?_)
  | (with_reducible refine' Co.ge ?_)
  | (with_reducible refine' Co.eqb ?_)
  | (with_reducible refine' Tt.int ?_)
  | (with_reducible refine' Tt.bool ?_)
  | ((with_reducible refine' Ar.cons ?_ ?h1); (case h1 => rfl))
  | (with_reducible refine' Ar.nil ?_)
  | (with_reducible refine' Ex.tup ?_)
  | (with_reducible refine' Ex.list ?_)
  | refine ⟨_, _, _, _, rfl, rfl, (by first | assumption | exact IsInfo.self (by (first | assumption | exact IsInfo.self (by assumption) | exact IsInfo.upd (by assumption) (by assumption) (by first | assumption | (apply Ne.symm; assumption)))) | exact IsInfo.upd (by (first | assumption | exact IsInfo.self (by assumption) | exact IsInfo.upd (by assumption) (by assumption) (by first | assumption | (apply Ne.symm; assumption)))) (by (first | assumption | exact IsInfo.self (by assumption) | exact IsInfo.upd (by assumption) (by assumption) (by first | assumption | (apply Ne.symm; assumption)))) (by first | assumption | (apply Ne.symm; assumption))), ?_⟩
  | refine ⟨_, _, _, _, rfl, (by (first | assumption | exact IsInfo.self (by (first | assumption | exact IsInfo.self (by assumption) | exact IsInfo.upd (by assumption) (by assumption) (by first | assumption | (apply Ne.symm; assumption)))) | exact IsInfo.upd (by (first | assumption | exact IsInfo.self (by assumption) | exact IsInfo.upd (by assumption) (by assumption) (by first | assumption | (apply Ne.symm; assumption)))) (by (first | assumption | exact IsInfo.self (by assumption) | exact IsInfo.upd (by assumption) (by assumption) (by first | assumption | (apply Ne.symm; assumption)))) (by first | assumption | (apply Ne.symm; assumption)))), (by simp), rfl, rfl, ?_⟩)
      refine Ss.nil ⟨rfl, hm, hE, hL, ?_⟩
      rw [upd_ext (h := hangG i (i + k) M) fun n r' hn => ?_]
      · exact hR₂
      · unfold hangG
        by_cases q : n = i + k
        · subst q; rw [hrR] at hn; cases hn
          rw [if_neg (by simp [hc]), if_neg (by omega)]
        · congr 1; simp; omega
    · rw [if_pos (by simpa using hc)]
      (first
  | ((with_reducible refine' Ss.name ?_ ?h1 ?h2 ?h3); (case h1 => rfl); (case h2 => rfl); (case h3 => rfl))
  | (with_reducible refine' Ss.ret ?_)
  | (with_reducible refine' Ss.ret0 ?_)
  | ((with_reducible refine' Ss.set_xa ?h0 ?_ ?h2); (case h0 => assumption); (case h2 => rfl))
  | ((with_reducible refine' Ss.set_xo ?h0 ?_ ?h2); (case h0 => assumption); (case h2 => rfl))
  | ((with_reducible refine' Ss.set_parent ?h0 ?_ ?h2); (case h0 => assumption); (case h2 => rfl))
  | ((with_reducible refine' Ss.set_un ?h0 ?_ ?h2); (case h0 => assumption); (case h2 => rfl))
  | (with_reducible refine' Ss.cond ?_)
  | (with_reducible refine' Ss.nilA ?_)
  | (with_reducible refine' Ss.nil ?_)
  | (with_reducible refine' Ex.cint ?_)
  | (with_reducible refine' Ex.cstr ?_)
  | (with_reducible refine' Ex.cbool ?_)
  | (with_reducible refine' Ex.cnone ?_)
  | ((with_reducible refine' Ex.name ?h0 ?_ ?h2 ?h3 ?h4); (case h0 => rfl); (case h2 => rfl); (case h3 => rfl); (case h4 => decide))
  | (with_reducible refine' Ex.binop ?_)
  | ((with_reducible refine' Ex.cmp ?_ ?h1); (case h1 => rfl))
  | (with_reducible refine' Ex.neg ?_)
  | ((with_reducible refine' Ex.info ?h0 ?_ ?h2); (case h0 => assumption); (case h2 => rfl))
  | (with_reducible refine' Ex.ite ?_)
  | (with_reducible refine' Ex.or2 ?_)
  | (with_reducible refine' Ex.and2 ?_)
  | (with_reducible refine' Ex.bool1 ?_)
  | ((with_reducible refine' Ts.cmp ?_ ?h1); (case h1 => rfl))
  | (with_reducible refine' Ts.and2 ?_)
  | (with_reducible refine' TrB.and1 ?_)
  | (with_reducible refine' TrB.and0 ?_)
  | (with_reducible refine' TrB.or1 ?_)
  | (with_reducible refine' TrB.or0 ?_)
  | (with_reducible refine' Bo.add ?_)
  | (with_reducible refine' Bo.sub ?_)
  | ((with_reducible refine' Bo.shr ?h0 ?_); (case h0 => decide))
  | (with_reducible refine' Bo.and ?_)
  | (with_reducible refine' Co.eq ?_)
  | (with_reducible refine' Co.ne ?_)
  | (with_reducible refine' Co.lt ?_)
  | (with_reducible refine' Co.le ?_)
  | (with_reducible refine' Co.gt ?_)
  | (with_reducible refine' Co.ge ?_)
  | (with_reducible refine' Co.eqb ?_)
  | (with_reducible refine' Tt.int ?_)
  | (with_reducible refine' Tt.bool ?_)
  | ((with_reducible refine' Ar.cons ?_ ?h1); (case h1 => rfl))
  | (with_reducible refine' Ar.nil ?_)
  | (with_reducible refine' Ex.tup ?_)
  | (with_reducible refine' Ex.list ?_)
  | refine ⟨_, _, _, _, rfl, rfl, (by first | assumption | exact IsInfo.self (by (first | assumption | exact IsInfo.self (by assumption) | exact IsInfo.upd (by assumption) (by assumption) (by first | assumption | (apply Ne.symm; assumption)))) | exact IsInfo.upd (by (first | assumption | exact IsInfo.self (by assumption) | exact IsInfo.upd (by assumption) (by assumption) (by first | assumption | (apply Ne.symm; assumption)))) (by (first | assumption | exact IsInfo.self (by assumption) | exact IsInfo.upd (by assumption) (by assumption) (by first | assumption | (apply Ne.symm; assumption)))) (by first | assumption | (apply Ne.symm; assumption))), ?_⟩
  | refine ⟨_, _, _, _, rfl, (by (first | assumption | exact IsInfo.self (by (first | assumption | exact IsInfo.self (by assumption) | exact IsInfo.upd (by assumption) (by assumption) (by first | assumption | (apply Ne.symm; assumption)))) | exact IsInfo.upd (by (first | assumption | exact IsInfo.self (by assumption) | exact IsInfo.upd (by assumption) (by assumption) (by first | assumption | (apply Ne.symm; assumption)))) (by (first | assumption | exact IsInfo.self (by assumption) | exact IsInfo.upd (by assumption) (by assumption) (by first | assumption | (apply Ne.symm; assumption)))) (by first | assumption | (apply Ne.symm; assumption)))), (by simp), rfl, rfl, ?_⟩)
      (first
  | ((with_reducible refine' Ss.name ?_ ?h1 ?h2 ?h3); (case h1 => rfl); (case h2 => rfl); (case h3 => rfl))
  | (with_reducible refine' Ss.ret ?_)
  | (with_reducible refine' Ss.ret0 ?_)
  | ((with_reducible refine' Ss.set_xa ?h0 ?_ ?h2); (case h0 => assumption); (case h2 => rfl))
  | ((with_reducible refine' Ss.set_xo ?h0 ?_ ?h2); (case h0 => assumption); (case h2 => rfl))
  | ((with_reducible refine' Ss.set_parent ?h0 ?_ ?h2); (case h0 => assumption); (case h2 => rfl))
  | ((with_reducible refine' Ss.set_un ?h0 ?_ ?h2); (case h0 => assumption); (case h2 => rfl))
  | (with_reducible refine' Ss.cond ?_)
  | (with_reducible refine' Ss.nilA ?_)
  | (with_reducible refine' Ss.nil ?_)
  | (with_reducible refine' Ex.cint ?_)
  | (with_reducible refine' Ex.cstr ?_)
  | (with_reducible refine' Ex.cbool ?_)
  | (with_reducible refine' Ex.cnone ?_)
  | ((with_reducible refine' Ex.name ?h0 ?_ ?h2 ?h3 ?h4); (case h0 => rfl); (case h2 => rfl); (case h3 => rfl); (case h4 => decide))
  | (with_reducible refine' Ex.binop ?_)
  | ((with_reducible refine' Ex.cmp ?_ ?h1); (case h1 => rfl))
  | (with_reducible refine' Ex.neg ?_)
  | ((with_reducible refine' Ex.info ?h0 ?_ ?h2); (case h0 => assumption); (case h2 => rfl))
  | (with_reducible refine' Ex.ite ?_)
  | (with_reducible refine' Ex.or2 ?_)
  | (with_reducible refine' Ex.and2 ?_)
  | (with_reducible refine' Ex.bool1 ?_)
  | ((with_reducible refine' Ts.cmp ?_ ?h1); (case h1 => rfl))
  | (with_reducible refine' Ts.and2 ?_)
  | (with_reducible refine' TrB.and1 ?_)
  | (with_reducible refine' TrB.and0 ?_)
  | (with_reducible refine' TrB.or1 ?_)
  | (with_reducible refine' TrB.or0 ?_)
  | (with_reducible refine' Bo.add ?_)
  | (with_reducible refine' Bo.sub ?_)
  | ((with_reducible refine' Bo.shr ?h0 ?_); (case h0 => decide))
  | (with_reducible refine' Bo.and ?_)
  | (with_reducible refine' Co.eq ?_)
  | (with_reducible refine' Co.ne ?_)
  | (with_reducible refine' Co.lt ?_)
  | (with_reducible refine' Co.le ?_)
  | (with_reducible refine' Co.gt ?_)
  | (with_reducible refine' Co.ge ?_)
  | (with_reducible refine' Co.eqb ?_)
  | (with_reducible refine' Tt.int ?_)
  | (with_reducible refine' Tt.bool ?_)
  | ((with_reducible refine' Ar.cons ?_ ?h1); (case h1 => rfl))
  | (with_reducible refine' Ar.nil ?_)
  | (with_reducible refine' Ex.tup ?_)
  | (with_reducible refine' Ex.list ?_)
  | refine ⟨_, _, _, _, rfl, rfl, (by first | assumption | exact IsInfo.self (by (first | assumption | exact IsInfo.self (by assumption) | exact IsInfo.upd (by assumption) (by assumption) (by first | assumption | (apply Ne.symm; assumption)))) | exact IsInfo.upd (by (first | assumption | exact IsInfo.self (by assumption) | exact IsInfo.upd (by assumption) (by assumption) (by first | assumption | (apply Ne.symm; assumption)))) (by (first | assumption | exact IsInfo.self (by assumption) | exact IsInfo.upd (by assumption) (by assumption) (by first | assumption | (apply Ne.symm; assumption)))) (by first | assumption | (apply Ne.symm; assumption))), ?_⟩
  | refine ⟨_, _, _, _, rfl, (by (first | assumption | exact IsInfo.self (by (first | assumption | exact IsInfo.self (by assumption) | exact IsInfo.upd (by assumption) (by assumption) (by first | assumption | (apply Ne.symm; assumption)))) | exact IsInfo.upd (by (first | assumption | exact IsInfo.self (by assumption) | exact IsInfo.upd (by assumption) (by assumption) (by first | assumption | (apply Ne.symm; assumption)))) (by (first | assumption | exact IsInfo.self (by assumption) | exact IsInfo.upd (by assumption) (by assumption) (by first | assumption | (apply Ne.symm; assumption)))) (by first | assumption | (apply Ne.symm; assumption)))), (by simp), rfl, rfl, ?_⟩)
      (first
  | ((with_reducible refine' Ss.name ?_ ?h1 ?h2 ?h3); (case h1 => rfl); (case h2 => rfl); (case h3 => rfl))
  | (with_reducible refine' Ss.ret ?_)
  | (with_reducible refine' Ss.ret0 ?_)
  | ((with_reducible refine' Ss.set_xa ?h0 ?_ ?h2); (case h0 => assumption); (case h2 => rfl))
  | ((with_reducible refine' Ss.set_xo ?h0 ?_ ?h2); (case h0 => assumption); (case h2 => rfl))
  | ((with_reducible refine' Ss.set_parent ?h0 ?_ ?h2); (case h0 => assumption); (case h2 => rfl))
  | ((with_reducible refine' Ss.set_un ?h0 ?_ ?h2); (case h0 => assumption); (case h2 => rfl))
  | (with_reducible refine' Ss.cond ?_)
  | (with_reducible refine' Ss.nilA ?_)
  | (with_reducible refine' Ss.nil ?_)
  | (with_reducible refine' Ex.cint ?_)
  | (with_reducible refine' Ex.cstr ?_)
  | (with_reducible refine' Ex.cbool ?_)
  | (with_reducible refine' Ex.cnone ?_)
  | ((with_reducible refine' Ex.name ?h0 ?_ ?h2 ?h3 ?h4); (case h0 => rfl); (case h2 => rfl); (case h3 => rfl); (case h4 => decide))
  | (with_reducible refine' Ex.binop ?_)
  | ((with_reducible refine' Ex.cmp ?_ ?h1); (case h1 => rfl))
  | (with_reducible refine' Ex.neg ?_)
  | ((with_reducible refine' Ex.info ?h0 ?_ ?h2); (case h0 => assumption); (case h2 => rfl))
  | (with_reducible refine' Ex.ite ?_)
  | (with_reducible refine' Ex.or2 ?_)
  | (with_reducible refine' Ex.and2 ?_)
  | (with_reducible refine' Ex.bool1 ?_)
  | ((with_reducible refine' Ts.cmp ?_ ?h1); (case h1 => rfl))
  | (with_reducible refine' Ts.and2 ?_)
  | (with_reducible refine' TrB.and1 ?_)
  | (with_reducible refine' TrB.and0 ?_)
  | (with_reducible refine' TrB.or1 ?_)
  | (with_reducible refine' TrB.or0 ?_)
  | (with_reducible refine' Bo.add ?_)
  | (with_reducible refine' Bo.sub ?_)
  | ((with_reducible refine' Bo.shr ?h0 ?_); (case h0 => decide))
  | (with_reducible refine' Bo.and ?_)
  | (with_reducible refine' Co.eq ?_)
  | (with_reducible refine' Co.ne ?_)
  | (with_reducible refine' Co.lt ?_)
  | (with_reducible refine' Co.le ?_)
  | (with_reducible refine' Co.gt ?_)
  | (with_reducible refine' Co.ge ?_)
  | (with_reducible refine' Co.eqb ?_)
  | (with_reducible refine' Tt.int ?_)
  | (with_reducible refine' Tt.bool ?_)
  | ((with_reducible refine' Ar.cons ?_ ?h1); (case h1 => rfl))
  | (with_reducible refine' Ar.nil ?_)
  | (with_reducible refine' Ex.tup ?_)
  | (with_reducible refine' Ex.list ?_)
  | refine ⟨_, _, _, _, rfl, rfl, (by first | assumption | exact IsInfo.self (by (first | assumption | exact IsInfo.self (by assumption) | exact IsInfo.upd (by assumption) (by assumption) (by first | assumption | (apply Ne.symm; assumption)))) | exact IsInfo.upd (by (first | assumption | exact IsInfo.self (by assumption) | exact IsInfo.upd (by assumption) (by assumption) (by first | assumption | (apply Ne.symm; assumption)))) (by (first | assumption | exact IsInfo.self (by assumption) | exact IsInfo.upd (by assumption) (by assumption) (by first | assumption | (apply Ne.symm; assumption)))) (by first | assumption | (apply Ne.symm; assumption))), ?_⟩
  | refine ⟨_, _, _, _, rfl, (by (first | assumption | exact IsInfo.self (by (first | assumption | exact IsInfo.self (by assumption) | exact IsInfo.upd (by assumption) (by assumption) (by first | assumption | (apply Ne.symm; assumption)))) | exact IsInfo.upd (by (first | assumption | exact IsInfo.self (by assumption) | exact IsInfo.upd (by assumption) (by assumption) (by first | assumption | (apply Ne.symm; assumption)))) (by (first | assumption | exact IsInfo.self (by assumption) | exact IsInfo.upd (by assumption) (by assumption) (by first | assumption | (apply Ne.symm; assumption)))) (by first | assumption | (apply Ne.symm; assumption)))), (by simp), rfl, rfl, ?_⟩)
      refine ⟨_, _, _, true, rfl, rfl, hI, ?_⟩
      (first
  | ((with_reducible refine' Ss.name ?_ ?h1 ?h2 ?h3); (case h1 => rfl); (case h2 => rfl); (case h3 => rfl))
  | (with_reducible refine' Ss.ret ?_)
  | (with_reducible refine' Ss.ret0 ?_)
  | ((with_reducible refine' Ss.set_xa ?h0 ?_ ?h2); (case h0 => assumption); (case h2 => rfl))
  | ((with_reducible refine' Ss.set_xo ?h0 ?_ ?h2); (case h0 => assumption); (case h2 => rfl))
  | ((with_reducible refine' Ss.set_parent ?h0 ?_ ?h2); (case h0 => assumption); (case h2 => rfl))
  | ((with_reducible refine' Ss.set_un ?h0 ?_ ?h2); (case h0 => assumption); (case h2 => rfl))
  | (with_reducible refine' Ss.cond ?_)
  | (with_reducible refine' Ss.nilA ?_)
  | (with_reducible refine' Ss.nil ?_)
  | (with_reducible refine' Ex.cint ?_)
  | (with_reducible refine' Ex.cstr ?_)
  | (with_reducible refine' Ex.cbool ?_)
  | (with_reducible refine' Ex.cnone ?_)
  | ((with_reducible refine' Ex.name ?h0 ?_ ?h2 ?h3 ?h4); (case h0 => rfl); (case h2 => rfl); (case h3 => rfl); (case h4 => decide))
  | (with_reducible refine' Ex.binop ?_)
  | ((with_reducible refine' Ex.cmp ?_ ?h1); (case h1 => rfl))
  | (with_reducible refine' Ex.neg ?_)
  | ((with_reducible refine' Ex.info ?h0 ?_ ?h2); (case h0 => assumption); (case h2 => rfl))
  | (with_reducible refine' Ex.ite ?_)
  | (with_reducible refine' Ex.or2 ?_)
  | (with_reducible refine' Ex.and2 ?_)
  | (with_reducible refine' Ex.bool1 ?_)
  | ((with_reducible refine' Ts.cmp ?_ ?h1); (case h1 => rfl))
  | (with_reducible refine' Ts.and2 ?_)
  | (with_reducible refine' TrB.and1 ?_)
  | (with_reducible refine' TrB.and0 ?_)
  | (with_reducible refine' TrB.or1 ?_)
  | (with_reducible refine' TrB.or0 ?_)
  | (with_reducible refine' Bo.add ?_)
  | (with_reducible refine' Bo.sub ?_)
  | ((with_reducible refine' Bo.shr ?h0 ?_); (case h0 => decide))
  | (with_reducible refine' Bo.and ?_)
  | (with_reducible refine' Co.eq ?_)
  | (with_reducible refine' Co.ne ?_)
  | (with_reducible refine' Co.lt ?_)
  | (with_reducible refine' Co.le ?_)
  | (with_reducible refine' Co.gt ?_)
  | (with_reducible refine' Co.ge ?_)
  | (with_reducible refine' Co.eqb ?_)
  | (with_reducible refine' Tt.int ?_)
  | (with_reducible refine' Tt.bool ?_)
  | ((with_reducible refine' Ar.cons ?_ ?h1); (case h1 => rfl))
  | (with_reducible refine' Ar.nil ?_)
  | (with_reducible refine' Ex.tup ?_)
  | (with_reducible refine' Ex.list ?_)
  | refine ⟨_, _, _, _, rfl, rfl, (by first | assumption | exact IsInfo.self (by (first | assumption | exact IsInfo.self (by assumption) | exact IsInfo.upd (by assumption) (by assumption) (by first | assumption | (apply Ne.symm; assumption)))) | exact IsInfo.upd (by (first | assumption | exact IsInfo.self (by assumption) | exact IsInfo.upd (by assumption) (by assumption) (by first | assumption | (apply Ne.symm; assumption)))) (by (first | assumption | exact IsInfo.self (by assumption) | exact IsInfo.upd (by assumption) (by assumption) (by first | assumption | (apply Ne.symm; assumption)))) (by first | assumption | (apply Ne.symm; assumption))), ?_⟩
  | refine ⟨_, _, _, _, rfl, (by (first | assumption | exact IsInfo.self (by (first | assumption | exact IsInfo.self (by assumption) | exact IsInfo.upd (by assumption) (by assumption) (by first | assumption | (apply Ne.symm; assumption)))) | exact IsInfo.upd (by (first | assumption | exact IsInfo.self (by assumption) | exact IsInfo.upd (by assumption) (by assumption) (by first | assumption | (apply Ne.symm; assumption)))) (by (first | assumption | exact IsInfo.self (by assumption) | exact IsInfo.upd (by assumption) (by assumption) (by first | assumption | (apply Ne.symm; assumption)))) (by first | assumption | (apply Ne.symm; assumption)))), (by simp), rfl, rfl, ?_⟩)
      have hd : r.2.1 ∈ Ds R := List.mem_map.mpr ⟨r, List.mem_of_getElem? hrR, rfl⟩
      have hfr : (f r.2.1).isSome = true := by rw [(hR.get hrR).2]; rfl
      refine Ss.nil ⟨rfl, hm, hE.trans (Ext.set hd), hL.keep (fset_ne ?_), ?_⟩
      · rintro rfl; rw [hD] at hfr; cases hfr
      · have := Row.set (y := r.2.2.s_un true) hR₂ (n := i + k) (r := r) (by rw [upd_get, hrR]; unfold hangG; simp)
        rw [upd_upd] at this
        rw [upd_ext (fun n r' hn => ?_)]
        · exact this
        · show hangG i (i + (k + 1)) M n r'.2.2 = if n = i + k then _ else _
          unfold hangG
          by_cases q : n = i + k
          · subst q; rw [hrR] at hn; cases hn
            rw [if_pos ⟨by omega, by omega, hc⟩, if_pos rfl]
          · rw [if_neg q]; congr 1; simp; omega
  · rintro m' f' ⟨-, hE, -, hR'⟩
    rw [List.length_map, hTl, show i + (j - i) = j by omega] at hR'
    refine andNext ?_
    refine Ss.nil ?_
    refine h f' M ?_ ?_ hE hR'
    · obtain ⟨r, hr, rfl⟩ := List.mem_map.mp hM
      obtain ⟨n, hn⟩ := List.mem_iff_getElem?.mp hr
      have hlt : n < j - i := by rw [← hTl]; exact (List.getElem?_eq_some_iff.mp hn).1
      exact ⟨i + n, r, by omega, by omega, (hTg n hlt).symm.trans hn, rfl⟩
    · intro n r h1 h2 hn
      refine hle _ (List.mem_map.mpr ⟨r, ?_, rfl⟩)
      refine List.mem_of_getElem? (i := n - i) ?_
      rw [hTg _ (by omega), show i + (n - i) = n by omega]; exact hn

end Mine

namespace Mine
-- W3
set_option maxRecDepth 100000
set_option maxHeartbeats 2000000
theorem fillit3 : (PySem.Challenge.rw_nu0162_01 = PySem.Challenge.rw_nu0162_01) ∧ (∀ P, KK P = KK P) := by
  k_fill
  exact ⟨rfl, fun _ => rfl⟩
variable {w : World} {h₀ : Heap} {A : Around} {f : Fh}
theorem Row.rev {R : Rw} (h : Row w f R) : Row w f R.reverse := ⟨by rw [List.map_reverse]; exact (List.reverse_perm _).nodup_iff.mpr h.1, fun r hr => h.2 r (List.mem_reverse.mp hr)⟩
theorem refs_rev (R : Rw) : refs R.reverse = (refs R).reverse := List.map_reverse ..
theorem Row.neL {R : Rw} {l : Addr} {xs : List Value} (h : Row w f R) (e : IsL f l xs) : ∀ r ∈ R, r.1 ∉ [l] ∧ r.2.1 ∉ [l] := fun r hr => by
  have i := h.2 r hr
  constructor <;> (intro q; rw [List.mem_singleton] at q; subst q; rcases e with e | e)
  · have := i.1.symm.trans e; cases this
  · have := i.1.symm.trans e; cases this
  · have := i.2.symm.trans e; cases this
  · have := i.2.symm.trans e; cases this
theorem IsBuf.off {b bd rl : Addr} {back : Bool} {R : Rw} (B : IsBuf w f b bd rl back) (h : Row w f R) : b ∉ Ds R ∧ bd ∉ Ds R := by
  constructor <;> (intro q; obtain ⟨r, hr, rfl⟩ := List.mem_map.mp q)
  · have := B.1.symm.trans (h.2 r hr).2; cases this
  · have := B.2.symm.trans (h.2 r hr).2
    have := congrArg List.length (Cel.dict.inj (Option.some.inj this))
    simp at this
theorem IsBuf.neL {b bd rl l : Addr} {back : Bool} {xs : List Value} (B : IsBuf w f b bd rl back) (e : IsL f l xs) : b ≠ l ∧ bd ≠ l := by
  constructor <;> (rintro rfl; rcases e with e | e)
  · have := B.1.symm.trans e; cases this
  · have := B.1.symm.trans e; cases this
  · have := B.2.symm.trans e; cases this
  · have := B.2.symm.trans e; cases this
def negP (x : Inf) : Inf := x.s_parent (-x.parent)
theorem turn_row_spec {b bd rl : Addr} {back : Bool} {R : Rw} {P : Value → Fh → Prop} (hG : (GG w h₀).Ok) (hA : Rm 1 A) (B : IsBuf w f b bd rl back) (hl : f rl = some (.list (refs R))) (hR : Row w f R) (hz : R.length ≤ 1000)
    (h : ∀ f', Ext (rl :: Ds R) f f' → f' rl = some (.list (refs R.reverse)) → Row w f' (upd (fun _ => negP) R.reverse) → P .none f') :
    Cd (GG w h₀) A f 114 [.ref b] P := by
  refine Cd.enter1 (n₁ := "buffer") hG hA (ho_lit (by dsimp only; k_is) rfl) (by dsimp only; k_is) fun L hA => ?_
  refine Ss.expr (Ex.meth0 hG ?_ (pl := ?pl) (hc := ?hc)); (case hc => rfl)
  refine Ex.brow hG ?_
  (first
  | ((with_reducible refine' Ss.name ?_ ?h1 ?h2 ?h3); (case h1 => rfl); (case h2 => rfl); (case h3 => rfl))
  | (with_reducible refine' Ss.ret ?_)
  | (with_reducible refine' Ss.ret0 ?_)
  | ((with_reducible refine' Ss.set_xa ?h0 ?_ ?h2); (case h0 => assumption); (case h2 => rfl))
  | ((with_reducible refine' Ss.set_xo ?h0 ?_ ?h2); (case h0 => assumption); (case h2 => rfl))
  | ((with_reducible refine' Ss.set_parent ?h0 ?_ ?h2); (case h0 => assumption); (case h2 => rfl))
  | ((with_reducible refine' Ss.set_un ?h0 ?_ ?h2); (case h0 => assumption); (case h2 => rfl))
  | (with_reducible refine' Ss.cond ?_)
  | (with_reducible refine' Ss.nilA ?_)
  | (with_reducible refine' Ss.nil ?_)
  | (with_reducible refine' Ex.cint ?_)
  | (with_reducible refine' Ex.cstr ?_)
  | (with_reducible refine' Ex.cbool ?_)
  | (with_reducible refine' Ex.cnone ?_)
  | ((with_reducible refine' Ex.name ?h0 ?_ ?h2 ?h3 ?h4); (case h0 => rfl); (case h2 => rfl); (case h3 => rfl); (case h4 => decide))
  | (with_reducible refine' Ex.binop ?_)
  | ((with_reducible refine' Ex.cmp ?_ ?h1); (case h1 => rfl))
  | (with_reducible refine' Ex.neg ?_)
  | ((with_reducible refine' Ex.info ?h0 ?_ ?h2); (case h0 => assumption); (case h2 => rfl))
  | (with_reducible refine' Ex.ite ?_)
  | (with_reducible refine' Ex.or2 ?_)
  | (with_reducible refine' Ex.and2 ?_)
  | (with_reducible refine' Ex.bool1 ?_)
  | ((with_reducible refine' Ts.cmp ?_ ?h1); (case h1 => rfl))
  | (with_reducible refine' Ts.and2 ?_)
  | (with_reducible refine' TrB.and1 ?_)
  | (with_reducible refine' TrB.and0 ?_)
  | (with_reducible refine' TrB.or1 ?_)
  | (with_reducible refine' TrB.or0 ?_)
  | (with_reducible refine' Bo.add ?_)
  | (with_reducible refine' Bo.sub ?_)
  | ((with_reducible refine' Bo.shr ?h0 ?_); (case h0 => decide))
  | (with_reducible refine' Bo.and ?_)
  | (with_reducible refine' Co.eq ?_)
  | (with_reducible refine' Co.ne ?_)
  | (with_reducible refine' Co.lt ?_)
  | (with_reducible refine' Co.le ?_)
  | (with_reducible refine' Co.gt ?_)
  | (with_reducible refine' Co.ge ?_)
  | (with_reducible refine' Co.eqb ?_)
  | (with_reducible refine' Tt.int ?_)
  | (with_reducible refine' Tt.bool ?_)
  | ((with_reducible refine' Ar.cons ?_ ?h1); (case h1 => rfl))
  | (with_reducible refine' Ar.nil ?_)
  | (with_reducible refine' Ex.tup ?_)
  | (with_reducible refine' Ex.list ?_)
  | refine ⟨_, _, _, _, rfl, rfl, (by first | assumption | exact IsInfo.self (by (first | assumption | exact IsInfo.self (by assumption) | exact IsInfo.upd (by assumption) (by assumption) (by first | assumption | (apply Ne.symm; assumption)))) | exact IsInfo.upd (by (first | assumption | exact IsInfo.self (by assumption) | exact IsInfo.upd (by assumption) (by assumption) (by first | assumption | (apply Ne.symm; assumption)))) (by (first | assumption | exact IsInfo.self (by assumption) | exact IsInfo.upd (by assumption) (by assumption) (by first | assumption | (apply Ne.symm; assumption)))) (by first | assumption | (apply Ne.symm; assumption))), ?_⟩
  | refine ⟨_, _, _, _, rfl, (by (first | assumption | exact IsInfo.self (by (first | assumption | exact IsInfo.self (by assumption) | exact IsInfo.upd (by assumption) (by assumption) (by first | assumption | (apply Ne.symm; assumption)))) | exact IsInfo.upd (by (first | assumption | exact IsInfo.self (by assumption) | exact IsInfo.upd (by assumption) (by assumption) (by first | assumption | (apply Ne.symm; assumption)))) (by (first | assumption | exact IsInfo.self (by assumption) | exact IsInfo.upd (by assumption) (by assumption) (by first | assumption | (apply Ne.symm; assumption)))) (by first | assumption | (apply Ne.symm; assumption)))), (by simp), rfl, rfl, ?_⟩)
  refine ⟨_, _, _, _, rfl, B, ?_⟩
  refine ⟨_, _, keep_builtin, meth_reverse hl, Ca.reverse hl (by rw [List.length_map]; omega) ⟨rfl, ?_⟩⟩
  have E₁ : Ext [rl] f (fset f rl (.list (refs R).reverse)) := Ext.set (by simp)
  have B₁ := B.ext E₁ (by simpa using (B.neL (.inl hl)).1) (by simpa using (B.neL (.inl hl)).2)
  have R₁ := (hR.ext E₁ (hR.neL (.inl hl))).rev
  have L₁ : (fset f rl (.list (refs R).reverse)) rl = some (.list (refs R.reverse)) := by rw [fset_self, refs_rev]
  generalize fset f rl (.list (refs R).reverse) = f₁ at *
  have hDs : ∀ d, d ∈ Ds R.reverse ↔ d ∈ Ds R := fun d => by simp only [List.map_reverse, List.mem_reverse]
  refine Ss.cons (St1.for (Ex.brow hG (Ex.name rfl ⟨_, _, _, _, rfl, B₁, ?_⟩)))
  refine ⟨rl, refs R.reverse, _, fun k m₁ f₂ => Ext (Ds R) f₁ f₂ ∧ f₂ rl = some (.list (refs R.reverse)) ∧ Row w f₂ (upd (fun n x => if n < k then negP x else x) R.reverse), rfl, Src.list hA.h (.inl L₁), ⟨Ext.refl, L₁, ?_⟩, fun _ _ _ q => .inl q.2.1, ?_, ?_⟩
  · rw [upd_id (fun n r _ => by rw [if_neg (by omega)])]; exact R₁
  · rintro k u m₁ f₂ hu ⟨hE, hL, hR₂⟩
    rw [refs_get] at hu
    obtain ⟨r, hr, rfl⟩ := Option.map_eq_some_iff.mp hu
    have hk : (upd (fun n x => if n < k then negP x else x) R.reverse)[k]? = some r := by rw [upd_get, hr]; simp
    have hI := hR₂.get hk
    (first
  | ((with_reducible refine' Ss.name ?_ ?h1 ?h2 ?h3); (case h1 => rfl); (case h2 => rfl); (case h3 => rfl))
  | (with_reducible refine' Ss.ret ?_)
  | (with_reducible refine' Ss.ret0 ?_)
  | ((with_reducible refine' Ss.set_xa ?h0 ?_ ?h2); (case h0 => assumption); (case h2 => rfl))
  | ((with_reducible refine' Ss.set_xo ?h0 ?_ ?h2); (case h0 => assumption); (case h2 => rfl))
  | ((with_reducible refine' Ss.set_parent ?h0 ?_ ?h2); (case h0 => assumption); (case h2 => rfl))
  | ((with_reducible refine' Ss.set_un ?h0 ?_ ?h2); (case h0 => assumption); (case h2 => rfl))
  | (with_reducible refine' Ss.cond ?_)
  | (with_reducible refine' Ss.nilA ?_)
  | (with_reducible refine' Ss.nil ?_)
  | (with_reducible refine' Ex.cint ?_)
  | (with_reducible refine' Ex.cstr ?_)
  | (with_reducible refine' Ex.cbool ?_)
  | (with_reducible refine' Ex.cnone ?_)
  | ((with_reducible refine' Ex.name ?h0 ?_ ?h2 ?h3 ?h4); (case h0 => rfl); (case h2 => rfl); (case h3 => rfl); (case h4 => decide))
  | (with_reducible refine' Ex.binop ?_)
  | ((with_reducible refine' Ex.cmp ?_ ?h1); (case h1 => rfl))
  | (with_reducible refine' Ex.neg ?_)
  | ((with_reducible refine' Ex.info ?h0 ?_ ?h2); (case h0 => assumption); (case h2 => rfl))
  | (with_reducible refine' Ex.ite ?_)
  | (with_reducible refine' Ex.or2 ?_)
  | (with_reducible refine' Ex.and2 ?_)
  | (with_reducible refine' Ex.bool1 ?_)
  | ((with_reducible refine' Ts.cmp ?_ ?h1); (case h1 => rfl))
  | (with_reducible refine' Ts.and2 ?_)
  | (with_reducible refine' TrB.and1 ?_)
  | (with_reducible refine' TrB.and0 ?_)
  | (with_reducible refine' TrB.or1 ?_)
  | (with_reducible refine' TrB.or0 ?_)
  | (with_reducible refine' Bo.add ?_)
  | (with_reducible refine' Bo.sub ?_)
  | ((with_reducible refine' Bo.shr ?h0 ?_); (case h0 => decide))
  | (with_reducible refine' Bo.and ?_)
  | (with_reducible refine' Co.eq ?_)
  | (with_reducible refine' Co.ne ?_)
  | (with_reducible refine' Co.lt ?_)
  | (with_reducible refine' Co.le ?_)
  | (with_reducible refine' Co.gt ?_)
  | (with_reducible refine' Co.ge ?_)
  | (with_reducible refine' Co.eqb ?_)
  | (with_reducible refine' Tt.int ?_)
  | (with_reducible refine' Tt.bool ?_)
  | ((with_reducible refine' Ar.cons ?_ ?h1); (case h1 => rfl))
  | (with_reducible refine' Ar.nil ?_)
  | (with_reducible refine' Ex.tup ?_)
  | (with_reducible refine' Ex.list ?_)
  | refine ⟨_, _, _, _, rfl, rfl, (by first | assumption | exact IsInfo.self (by (first | assumption | exact IsInfo.self (by assumption) | exact IsInfo.upd (by assumption) (by assumption) (by first | assumption | (apply Ne.symm; assumption)))) | exact IsInfo.upd (by (first | assumption | exact IsInfo.self (by assumption) | exact IsInfo.upd (by assumption) (by assumption) (by first | assumption | (apply Ne.symm; assumption)))) (by (first | assumption | exact IsInfo.self (by assumption) | exact IsInfo.upd (by assumption) (by assumption) (by first | assumption | (apply Ne.symm; assumption)))) (by first | assumption | (apply Ne.symm; assumption))), ?_⟩
  | refine ⟨_, _, _, _, rfl, (by (first | assumption | exact IsInfo.self (by (first | assumption | exact IsInfo.self (by assumption) | exact IsInfo.upd (by assumption) (by assumption) (by first | assumption | (apply Ne.symm; assumption)))) | exact IsInfo.upd (by (first | assumption | exact IsInfo.self (by assumption) | exact IsInfo.upd (by assumption) (by assumption) (by first | assumption | (apply Ne.symm; assumption)))) (by (first | assumption | exact IsInfo.self (by assumption) | exact IsInfo.upd (by assumption) (by assumption) (by first | assumption | (apply Ne.symm; assumption)))) (by first | assumption | (apply Ne.symm; assumption)))), (by simp), rfl, rfl, ?_⟩)
    (first
  | ((with_reducible refine' Ss.name ?_ ?h1 ?h2 ?h3); (case h1 => rfl); (case h2 => rfl); (case h3 => rfl))
  | (with_reducible refine' Ss.ret ?_)
  | (with_reducible refine' Ss.ret0 ?_)
  | ((with_reducible refine' Ss.set_xa ?h0 ?_ ?h2); (case h0 => assumption); (case h2 => rfl))
  | ((with_reducible refine' Ss.set_xo ?h0 ?_ ?h2); (case h0 => assumption); (case h2 => rfl))
  | ((with_reducible refine' Ss.set_parent ?h0 ?_ ?h2); (case h0 => assumption); (case h2 => rfl))
  | ((with_reducible refine' Ss.set_un ?h0 ?_ ?h2); (case h0 => assumption); (case h2 => rfl))
  | (with_reducible refine' Ss.cond ?_)
  | (with_reducible refine' Ss.nilA ?_)
  | (with_reducible refine' Ss.nil ?_)
  | (with_reducible refine' Ex.cint ?_)
  | (with_reducible refine' Ex.cstr ?_)
  | (with_reducible refine' Ex.cbool ?_)
  | (with_reducible refine' Ex.cnone ?_)
  | ((with_reducible refine' Ex.name ?h0 ?_ ?h2 ?h3 ?h4); (case h0 => rfl); (case h2 => rfl); (case h3 => rfl); (case h4 => decide))
  | (with_reducible refine' Ex.binop ?_)
  | ((with_reducible refine' Ex.cmp ?_ ?h1); (case h1 => rfl))
  | (with_reducible refine' Ex.neg ?_)
  | ((with_reducible refine' Ex.info ?h0 ?_ ?h2); (case h0 => assumption); (case h2 => rfl))
  | (with_reducible refine' Ex.ite ?_)
  | (with_reducible refine' Ex.or2 ?_)
  | (with_reducible refine' Ex.and2 ?_)
  | (with_reducible refine' Ex.bool1 ?_)
  | ((with_reducible refine' Ts.cmp ?_ ?h1); (case h1 => rfl))
  | (with_reducible refine' Ts.and2 ?_)
  | (with_reducible refine' TrB.and1 ?_)
  | (with_reducible refine' TrB.and0 ?_)
  | (with_reducible refine' TrB.or1 ?_)
  | (with_reducible refine' TrB.or0 ?_)
  | (with_reducible refine' Bo.add ?_)
  | (with_reducible refine' Bo.sub ?_)
  | ((with_reducible refine' Bo.shr ?h0 ?_); (case h0 => decide))
  | (with_reducible refine' Bo.and ?_)
  | (with_reducible refine' Co.eq ?_)
  | (with_reducible refine' Co.ne ?_)
  | (with_reducible refine' Co.lt ?_)
  | (with_reducible refine' Co.le ?_)
  | (with_reducible refine' Co.gt ?_)
  | (with_reducible refine' Co.ge ?_)
  | (with_reducible refine' Co.eqb ?_)
  | (with_reducible refine' Tt.int ?_)
  | (with_reducible refine' Tt.bool ?_)
  | ((with_reducible refine' Ar.cons ?_ ?h1); (case h1 => rfl))
  | (with_reducible refine' Ar.nil ?_)
  | (with_reducible refine' Ex.tup ?_)
  | (with_reducible refine' Ex.list ?_)
  | refine ⟨_, _, _, _, rfl, rfl, (by first | assumption | exact IsInfo.self (by (first | assumption | exact IsInfo.self (by assumption) | exact IsInfo.upd (by assumption) (by assumption) (by first | assumption | (apply Ne.symm; assumption)))) | exact IsInfo.upd (by (first | assumption | exact IsInfo.self (by assumption) | exact IsInfo.upd (by assumption) (by assumption) (by first | assumption | (apply Ne.symm; assumption)))) (by (first | assumption | exact IsInfo.self (by assumption) | exact IsInfo.upd (by assumption) (by assumption) (by first | assumption | (apply Ne.symm; assumption)))) (by first | assumption | (apply Ne.symm; assumption))), ?_⟩
  | refine ⟨_, _, _, _, rfl, (by (first | assumption | exact IsInfo.self (by (first | assumption | exact IsInfo.self (by assumption) | exact IsInfo.upd (by assumption) (by assumption) (by first | assumption | (apply Ne.symm; assumption)))) | exact IsInfo.upd (by (first | assumption | exact IsInfo.self (by assumption) | exact IsInfo.upd (by assumption) (by assumption) (by first | assumption | (apply Ne.symm; assumption)))) (by (first | assumption | exact IsInfo.self (by assumption) | exact IsInfo.upd (by assumption) (by assumption) (by first | assumption | (apply Ne.symm; assumption)))) (by first | assumption | (apply Ne.symm; assumption)))), (by simp), rfl, rfl, ?_⟩)
    (first
  | ((with_reducible refine' Ss.name ?_ ?h1 ?h2 ?h3); (case h1 => rfl); (case h2 => rfl); (case h3 => rfl))
  | (with_reducible refine' Ss.ret ?_)
  | (with_reducible refine' Ss.ret0 ?_)
  | ((with_reducible refine' Ss.set_xa ?h0 ?_ ?h2); (case h0 => assumption); (case h2 => rfl))
  | ((with_reducible refine' Ss.set_xo ?h0 ?_ ?h2); (case h0 => assumption); (case h2 => rfl))
  | ((with_reducible refine' Ss.set_parent ?h0 ?_ ?h2); (case h0 => assumption); (case h2 => rfl))
  | ((with_reducible refine' Ss.set_un ?h0 ?_ ?h2); (case h0 => assumption); (case h2 => rfl))
  | (with_reducible refine' Ss.cond ?_)
  | (with_reducible refine' Ss.nilA ?_)
  | (with_reducible refine' Ss.nil ?_)
  | (with_reducible refine' Ex.cint ?_)
  | (with_reducible refine' Ex.cstr ?_)
  | (with_reducible refine' Ex.cbool ?_)
  | (with_reducible refine' Ex.cnone ?_)
  | ((with_reducible refine' Ex.name ?h0 ?_ ?h2 ?h3 ?h4); (case h0 => rfl); (case h2 => rfl); (case h3 => rfl); (case h4 => decide))
  | (with_reducible refine' Ex.binop ?_)
  | ((with_reducible refine' Ex.cmp ?_ ?h1); (case h1 => rfl))
  | (with_reducible refine' Ex.neg ?_)
  | ((with_reducible refine' Ex.info ?h0 ?_ ?h2); (case h0 => assumption); (case h2 => rfl))
  | (with_reducible refine' Ex.ite ?_)
  | (with_reducible refine' Ex.or2 ?_)
  | (with_reducible refine' Ex.and2 ?_)
  | (with_reducible refine' Ex.bool1 ?_)
  | ((with_reducible refine' Ts.cmp ?_ ?h1); (case h1 => rfl))
  | (with_reducible refine' Ts.and2 ?_)
  | (with_reducible refine' TrB.and1 ?_)
  | (with_reducible refine' TrB.and0 ?_)
  | (with_reducible refine' TrB.or1 ?_)
  | (with_reducible refine' TrB.or0 ?_)
  | (with_reducible refine' Bo.add ?_)
  | (with_reducible refine' Bo.sub ?_)
  | ((with_reducible refine' Bo.shr ?h0 ?_); (case h0 => decide))
  | (with_reducible refine' Bo.and ?_)
  | (with_reducible refine' Co.eq ?_)
  | (with_reducible refine' Co.ne ?_)
  | (with_reducible refine' Co.lt ?_)
  | (with_reducible refine' Co.le ?_)
  | (with_reducible refine' Co.gt ?_)
  | (with_reducible refine' Co.ge ?_)
  | (with_reducible refine' Co.eqb ?_)
  | (with_reducible refine' Tt.int ?_)
  | (with_reducible refine' Tt.bool ?_)
  | ((with_reducible refine' Ar.cons ?_ ?h1); (case h1 => rfl))
  | (with_reducible refine' Ar.nil ?_)
  | (with_reducible refine' Ex.tup ?_)
  | (with_reducible refine' Ex.list ?_)
  | refine ⟨_, _, _, _, rfl, rfl, (by first | assumption | exact IsInfo.self (by (first | assumption | exact IsInfo.self (by assumption) | exact IsInfo.upd (by assumption) (by assumption) (by first | assumption | (apply Ne.symm; assumption)))) | exact IsInfo.upd (by (first | assumption | exact IsInfo.self (by assumption) | exact IsInfo.upd (by assumption) (by assumption) (by first | assumption | (apply Ne.symm; assumption)))) (by (first | assumption | exact IsInfo.self (by assumption) | exact IsInfo.upd (by assumption) (by assumption) (by first | assumption | (apply Ne.symm; assumption)))) (by first | assumption | (apply Ne.symm; assumption))), ?_⟩
  | refine ⟨_, _, _, _, rfl, (by (first | assumption | exact IsInfo.self (by (first | assumption | exact IsInfo.self (by assumption) | exact IsInfo.upd (by assumption) (by assumption) (by first | assumption | (apply Ne.symm; assumption)))) | exact IsInfo.upd (by (first | assumption | exact IsInfo.self (by assumption) | exact IsInfo.upd (by assumption) (by assumption) (by first | assumption | (apply Ne.symm; assumption)))) (by (first | assumption | exact IsInfo.self (by assumption) | exact IsInfo.upd (by assumption) (by assumption) (by first | assumption | (apply Ne.symm; assumption)))) (by first | assumption | (apply Ne.symm; assumption)))), (by simp), rfl, rfl, ?_⟩)
    (first
  | ((with_reducible refine' Ss.name ?_ ?h1 ?h2 ?h3); (case h1 => rfl); (case h2 => rfl); (case h3 => rfl))
  | (with_reducible refine' Ss.ret ?_)
  | (with_reducible refine' Ss.ret0 ?_)
  | ((with_reducible refine' Ss.set_xa ?h0 ?_ ?h2); (case h0 => assumption); (case h2 => rfl))
  | ((with_reducible refine' Ss.set_xo ?h0 ?_ ?h2); (case h0 => assumption); (case h2 => rfl))
  | ((with_reducible refine' Ss.set_parent ?h0 ?_ ?h2); (case h0 => assumption); (case h2 => rfl))
  | ((with_reducible refine' Ss.set_un ?h0 ?_ ?h2); (case h0 => assumption); (case h2 => rfl))
  | (with_reducible refine' Ss.cond ?_)
  | (with_reducible refine' Ss.nilA ?_)
  | (with_reducible refine' Ss.nil ?_)
  | (with_reducible refine' Ex.cint ?_)
  | (with_reducible refine' Ex.cstr ?_)
  | (with_reducible refine' Ex.cbool ?_)
  | (with_reducible refine' Ex.cnone ?_)
  | ((with_reducible refine' Ex.name ?h0 ?_ ?h2 ?h3 ?h4); (case h0 => rfl); (case h2 => rfl); (case h3 => rfl); (case h4 => decide))
  | (with_reducible refine' Ex.binop ?_)
  | ((with_reducible refine' Ex.cmp ?_ ?h1); (case h1 => rfl))
  | (with_reducible refine' Ex.neg ?_)
  | ((with_reducible refine' Ex.info ?h0 ?_ ?h2); (case h0 => assumption); (case h2 => rfl))
  | (with_reducible refine' Ex.ite ?_)
  | (with_reducible refine' Ex.or2 ?_)
  | (with_reducible refine' Ex.and2 ?_)
  | (with_reducible refine' Ex.bool1 ?_)
  | ((with_reducible refine' Ts.cmp ?_ ?h1); (case h1 => rfl))
  | (with_reducible refine' Ts.and2 ?_)
  | (with_reducible refine' TrB.and1 ?_)
  | (with_reducible refine' TrB.and0 ?_)
  | (with_reducible refine' TrB.or1 ?_)
  | (with_reducible refine' TrB.or0 ?_)
  | (with_reducible refine' Bo.add ?_)
  | (with_reducible refine' Bo.sub ?_)
  | ((with_reducible refine' Bo.shr ?h0 ?_); (case h0 => decide))
  | (with_reducible refine' Bo.and ?_)
  | (with_reducible refine' Co.eq ?_)
  | (with_reducible refine' Co.ne ?_)
  | (with_reducible refine' Co.lt ?_)
  | (with_reducible refine' Co.le ?_)
  | (with_reducible refine' Co.gt ?_)
  | (with_reducible refine' Co.ge ?_)
  | (with_reducible refine' Co.eqb ?_)
  | (with_reducible refine' Tt.int ?_)
  | (with_reducible refine' Tt.bool ?_)
  | ((with_reducible refine' Ar.cons ?_ ?h1); (case h1 => rfl))
  | (with_reducible refine' Ar.nil ?_)
  | (with_reducible refine' Ex.tup ?_)
  | (with_reducible refine' Ex.list ?_)
  | refine ⟨_, _, _, _, rfl, rfl, (by first | assumption | exact IsInfo.self (by (first | assumption | exact IsInfo.self (by assumption) | exact IsInfo.upd (by assumption) (by assumption) (by first | assumption | (apply Ne.symm; assumption)))) | exact IsInfo.upd (by (first | assumption | exact IsInfo.self (by assumption) | exact IsInfo.upd (by assumption) (by assumption) (by first | assumption | (apply Ne.symm; assumption)))) (by (first | assumption | exact IsInfo.self (by assumption) | exact IsInfo.upd (by assumption) (by assumption) (by first | assumption | (apply Ne.symm; assumption)))) (by first | assumption | (apply Ne.symm; assumption))), ?_⟩
  | refine ⟨_, _, _, _, rfl, (by (first | assumption | exact IsInfo.self (by (first | assumption | exact IsInfo.self (by assumption) | exact IsInfo.upd (by assumption) (by assumption) (by first | assumption | (apply Ne.symm; assumption)))) | exact IsInfo.upd (by (first | assumption | exact IsInfo.self (by assumption) | exact IsInfo.upd (by assumption) (by assumption) (by first | assumption | (apply Ne.symm; assumption)))) (by (first | assumption | exact IsInfo.self (by assumption) | exact IsInfo.upd (by assumption) (by assumption) (by first | assumption | (apply Ne.symm; assumption)))) (by first | assumption | (apply Ne.symm; assumption)))), (by simp), rfl, rfl, ?_⟩)
    (first
  | ((with_reducible refine' Ss.name ?_ ?h1 ?h2 ?h3); (case h1 => rfl); (case h2 => rfl); (case h3 => rfl))
  | (with_reducible refine' Ss.ret ?_)
  | (with_reducible refine' Ss.ret0 ?_)
  | ((with_reducible refine' Ss.set_xa ?h0 ?_ ?h2); (case h0 => assumption); (case h2 => rfl))
  | ((with_reducible refine' Ss.set_xo ?h0 ?_ ?h2); (case h0 => assumption); (case h2 => rfl))
  | ((with_reducible refine' Ss.set_parent ?h0 ?_ ?h2); (case h0 => assumption); (case h2 => rfl))
  | ((with_reducible refine' Ss.set_un ?h0 ?_ ?h2); (case h0 => assumption); (case h2 => rfl))
  | (with_reducible refine' Ss.cond ?_)
  | (with_reducible refine' Ss.nilA ?_)
  | (with_reducible refine' Ss.nil ?_)
  | (with_reducible refine' Ex.cint ?_)
  | (with_reducible refine' Ex.cstr ?_)
  | (with_reducible refine' Ex.cbool ?_)
  | (with_reducible refine' Ex.cnone ?_)
  | ((with_reducible refine' Ex.name ?h0 ?_ ?h2 ?h3 ?h4); (case h0 => rfl); (case h2 => rfl); (case h3 => rfl); (case h4 => decide))
  | (with_reducible refine' Ex.binop ?_)
  | ((with_reducible refine' Ex.cmp ?_ ?h1); (case h1 => rfl))
  | (with_reducible refine' Ex.neg ?_)
  | ((with_reducible refine' Ex.info ?h0 ?_ ?h2); (case h0 => assumption); (case h2 => rfl))
  | (with_reducible refine' Ex.ite ?_)
  | (with_reducible refine' Ex.or2 ?_)
  | (with_reducible refine' Ex.and2 ?_)
  | (with_reducible refine' Ex.bool1 ?_)
  | ((with_reducible refine' Ts.cmp ?_ ?h1); (case h1 => rfl))
  | (with_reducible refine' Ts.and2 ?_)
  | (with_reducible refine' TrB.and1 ?_)
  | (with_reducible refine' TrB.and0 ?_)
  | (with_reducible refine' TrB.or1 ?_)
  | (with_reducible refine' TrB.or0 ?_)
  | (with_reducible refine' Bo.add ?_)
  | (with_reducible refine' Bo.sub ?_)
  | ((with_reducible refine' Bo.shr ?h0 ?_); (case h0 => decide))
  | (with_reducible refine' Bo.and ?_)
  | (with_reducible refine' Co.eq ?_)
  | (with_reducible refine' Co.ne ?_)
  | (with_reducible refine' Co.lt ?_)
  | (with_reducible refine' Co.le ?_)
  | (with_reducible refine' Co.gt ?_)
  | (with_reducible refine' Co.ge ?_)
  | (with_reducible refine' Co.eqb ?_)
  | (with_reducible refine' Tt.int ?_)
  | (with_reducible refine' Tt.bool ?_)
  | ((with_reducible refine' Ar.cons ?_ ?h1); (case h1 => rfl))
  | (with_reducible refine' Ar.nil ?_)
  | (with_reducible refine' Ex.tup ?_)
  | (with_reducible refine' Ex.list ?_)
  | refine ⟨_, _, _, _, rfl, rfl, (by first | assumption | exact IsInfo.self (by (first | assumption | exact IsInfo.self (by assumption) | exact IsInfo.upd (by assumption) (by assumption) (by first | assumption | (apply Ne.symm; assumption)))) | exact IsInfo.upd (by (first | assumption | exact IsInfo.self (by assumption) | exact IsInfo.upd (by assumption) (by assumption) (by first | assumption | (apply Ne.symm; assumption)))) (by (first | assumption | exact IsInfo.self (by assumption) | exact IsInfo.upd (by assumption) (by assumption) (by first | assumption | (apply Ne.symm; assumption)))) (by first | assumption | (apply Ne.symm; assumption))), ?_⟩
  | refine ⟨_, _, _, _, rfl, (by (first | assumption | exact IsInfo.self (by (first | assumption | exact IsInfo.self (by assumption) | exact IsInfo.upd (by assumption) (by assumption) (by first | assumption | (apply Ne.symm; assumption)))) | exact IsInfo.upd (by (first | assumption | exact IsInfo.self (by assumption) | exact IsInfo.upd (by assumption) (by assumption) (by first | assumption | (apply Ne.symm; assumption)))) (by (first | assumption | exact IsInfo.self (by assumption) | exact IsInfo.upd (by assumption) (by assumption) (by first | assumption | (apply Ne.symm; assumption)))) (by first | assumption | (apply Ne.symm; assumption)))), (by simp), rfl, rfl, ?_⟩)
    refine ⟨_, rfl, ?_⟩
    (first
  | ((with_reducible refine' Ss.name ?_ ?h1 ?h2 ?h3); (case h1 => rfl); (case h2 => rfl); (case h3 => rfl))
  | (with_reducible refine' Ss.ret ?_)
  | (with_reducible refine' Ss.ret0 ?_)
  | ((with_reducible refine' Ss.set_xa ?h0 ?_ ?h2); (case h0 => assumption); (case h2 => rfl))
  | ((with_reducible refine' Ss.set_xo ?h0 ?_ ?h2); (case h0 => assumption); (case h2 => rfl))
  | ((with_reducible refine' Ss.set_parent ?h0 ?_ ?h2); (case h0 => assumption); (case h2 => rfl))
  | ((with_reducible refine' Ss.set_un ?h0 ?_ ?h2); (case h0 => assumption); (case h2 => rfl))
  | (with_reducible refine' Ss.cond ?_)
  | (with_reducible refine' Ss.nilA ?_)
  | (with_reducible refine' Ss.nil ?_)
  | (with_reducible refine' Ex.cint ?_)
  | (with_reducible refine' Ex.cstr ?_)
  | (with_reducible refine' Ex.cbool ?_)
  | (with_reducible refine' Ex.cnone ?_)
  | ((with_reducible refine' Ex.name ?h0 ?_ ?h2 ?h3 ?h4); (case h0 => rfl); (case h2 => rfl); (case h3 => rfl); (case h4 => decide))
  | (with_reducible refine' Ex.binop ?_)
  | ((with_reducible refine' Ex.cmp ?_ ?h1); (case h1 => rfl))
  | (with_reducible refine' Ex.neg ?_)
  | ((with_reducible refine' Ex.info ?h0 ?_ ?h2); (case h0 => assumption); (case h2 => rfl))
  | (with_reducible refine' Ex.ite ?_)
  | (with_reducible refine' Ex.or2 ?_)
  | (with_reducible refine' Ex.and2 ?_)
  | (with_reducible refine' Ex.bool1 ?_)
  | ((with_reducible refine' Ts.cmp ?_ ?h1); (case h1 => rfl))
  | (with_reducible refine' Ts.and2 ?_)
  | (with_reducible refine' TrB.and1 ?_)
  | (with_reducible refine' TrB.and0 ?_)
  | (with_reducible refine' TrB.or1 ?_)
  | (with_reducible refine' TrB.or0 ?_)
  | (with_reducible refine' Bo.add ?_)
  | (with_reducible refine' Bo.sub ?_)
  | ((with_reducible refine' Bo.shr ?h0 ?_); (case h0 => decide))
  | (with_reducible refine' Bo.and ?_)
  | (with_reducible refine' Co.eq ?_)
  | (with_reducible refine' Co.ne ?_)
  | (with_reducible refine' Co.lt ?_)
  | (with_reducible refine' Co.le ?_)
  | (with_reducible refine' Co.gt ?_)
  | (with_reducible refine' Co.ge ?_)
  | (with_reducible refine' Co.eqb ?_)
  | (with_reducible refine' Tt.int ?_)
  | (with_reducible refine' Tt.bool ?_)
  | ((with_reducible refine' Ar.cons ?_ ?h1); (case h1 => rfl))
  | (with_reducible refine' Ar.nil ?_)
  | (with_reducible refine' Ex.tup ?_)
  | (with_reducible refine' Ex.list ?_)
  | refine ⟨_, _, _, _, rfl, rfl, (by first | assumption | exact IsInfo.self (by (first | assumption | exact IsInfo.self (by assumption) | exact IsInfo.upd (by assumption) (by assumption) (by first | assumption | (apply Ne.symm; assumption)))) | exact IsInfo.upd (by (first | assumption | exact IsInfo.self (by assumption) | exact IsInfo.upd (by assumption) (by assumption) (by first | assumption | (apply Ne.symm; assumption)))) (by (first | assumption | exact IsInfo.self (by assumption) | exact IsInfo.upd (by assumption) (by assumption) (by first | assumption | (apply Ne.symm; assumption)))) (by first | assumption | (apply Ne.symm; assumption))), ?_⟩
  | refine ⟨_, _, _, _, rfl, (by (first | assumption | exact IsInfo.self (by (first | assumption | exact IsInfo.self (by assumption) | exact IsInfo.upd (by assumption) (by assumption) (by first | assumption | (apply Ne.symm; assumption)))) | exact IsInfo.upd (by (first | assumption | exact IsInfo.self (by assumption) | exact IsInfo.upd (by assumption) (by assumption) (by first | assumption | (apply Ne.symm; assumption)))) (by (first | assumption | exact IsInfo.self (by assumption) | exact IsInfo.upd (by assumption) (by assumption) (by first | assumption | (apply Ne.symm; assumption)))) (by first | assumption | (apply Ne.symm; assumption)))), (by simp), rfl, rfl, ?_⟩)
    (first
  | ((with_reducible refine' Ss.name ?_ ?h1 ?h2 ?h3); (case h1 => rfl); (case h2 => rfl); (case h3 => rfl))
  | (with_reducible refine' Ss.ret ?_)
  | (with_reducible refine' Ss.ret0 ?_)
  | ((with_reducible refine' Ss.set_xa ?h0 ?_ ?h2); (case h0 => assumption); (case h2 => rfl))
  | ((with_reducible refine' Ss.set_xo ?h0 ?_ ?h2); (case h0 => assumption); (case h2 => rfl))
  | ((with_reducible refine' Ss.set_parent ?h0 ?_ ?h2); (case h0 => assumption); (case h2 => rfl))
  | ((with_reducible refine' Ss.set_un ?h0 ?_ ?h2); (case h0 => assumption); (case h2 => rfl))
  | (with_reducible refine' Ss.cond ?_)
  | (with_reducible refine' Ss.nilA ?_)
  | (with_reducible refine' Ss.nil ?_)
  | (with_reducible refine' Ex.cint ?_)
  | (with_reducible refine' Ex.cstr ?_)
  | (with_reducible refine' Ex.cbool ?_)
  | (with_reducible refine' Ex.cnone ?_)
  | ((with_reducible refine' Ex.name ?h0 ?_ ?h2 ?h3 ?h4); (case h0 => rfl); (case h2 => rfl); (case h3 => rfl); (case h4 => decide))
  | (with_reducible refine' Ex.binop ?_)
  | ((with_reducible refine' Ex.cmp ?_ ?h1); (case h1 => rfl))
  | (with_reducible refine' Ex.neg ?_)
  | ((with_reducible refine' Ex.info ?h0 ?_ ?h2); (case h0 => assumption); (case h2 => rfl))
  | (with_reducible refine' Ex.ite ?_)
  | (with_reducible refine' Ex.or2 ?_)
  | (with_reducible refine' Ex.and2 ?_)
  | (with_reducible refine' Ex.bool1 ?_)
  | ((with_reducible refine' Ts.cmp ?_ ?h1); (case h1 => rfl))
  | (with_reducible refine' Ts.and2 ?_)
  | (with_reducible refine' TrB.and1 ?_)
  | (with_reducible refine' TrB.and0 ?_)
  | (with_reducible refine' TrB.or1 ?_)
  | (with_reducible refine' TrB.or0 ?_)
  | (with_reducible refine' Bo.add ?_)
  | (with_reducible refine' Bo.sub ?_)
  | ((with_reducible refine' Bo.shr ?h0 ?_); (case h0 => decide))
  | (with_reducible refine' Bo.and ?_)
  | (with_reducible refine' Co.eq ?_)
  | (with_reducible refine' Co.ne ?_)
  | (with_reducible refine' Co.lt ?_)
  | (with_reducible refine' Co.le ?_)
  | (with_reducible refine' Co.gt ?_)
  | (with_reducible refine' Co.ge ?_)
  | (with_reducible refine' Co.eqb ?_)
  | (with_reducible refine' Tt.int ?_)
  | (with_reducible refine' Tt.bool ?_)
  | ((with_reducible refine' Ar.cons ?_ ?h1); (case h1 => rfl))
  | (with_reducible refine' Ar.nil ?_)
  | (with_reducible refine' Ex.tup ?_)
  | (with_reducible refine' Ex.list ?_)
  | refine ⟨_, _, _, _, rfl, rfl, (by first | assumption | exact IsInfo.self (by (first | assumption | exact IsInfo.self (by assumption) | exact IsInfo.upd (by assumption) (by assumption) (by first | assumption | (apply Ne.symm; assumption)))) | exact IsInfo.upd (by (first | assumption | exact IsInfo.self (by assumption) | exact IsInfo.upd (by assumption) (by assumption) (by first | assumption | (apply Ne.symm; assumption)))) (by (first | assumption | exact IsInfo.self (by assumption) | exact IsInfo.upd (by assumption) (by assumption) (by first | assumption | (apply Ne.symm; assumption)))) (by first | assumption | (apply Ne.symm; assumption))), ?_⟩
  | refine ⟨_, _, _, _, rfl, (by (first | assumption | exact IsInfo.self (by (first | assumption | exact IsInfo.self (by assumption) | exact IsInfo.upd (by assumption) (by assumption) (by first | assumption | (apply Ne.symm; assumption)))) | exact IsInfo.upd (by (first | assumption | exact IsInfo.self (by assumption) | exact IsInfo.upd (by assumption) (by assumption) (by first | assumption | (apply Ne.symm; assumption)))) (by (first | assumption | exact IsInfo.self (by assumption) | exact IsInfo.upd (by assumption) (by assumption) (by first | assumption | (apply Ne.symm; assumption)))) (by first | assumption | (apply Ne.symm; assumption)))), (by simp), rfl, rfl, ?_⟩)
    have hd : r.2.1 ∈ Ds R := (hDs _).mp (List.mem_map.mpr ⟨r, List.mem_of_getElem? hr, rfl⟩)
    refine Ss.nil ⟨rfl, hE.trans (Ext.set hd), ?_, ?_⟩
    · rw [fset_ne (by rintro rfl; have := hL.symm.trans hI.2; cases this)]; exact hL
    · have := Row.set (y := negP r.2.2) hR₂ hk
      rw [upd_upd] at this
      rw [upd_ext (fun n r' hn => ?_)]
      · exact this
      · show (if n < k + 1 then _ else _) = if n = k then _ else _
        by_cases q : n = k
        · subst q; rw [hr] at hn; cases hn
          rw [if_pos (by omega), if_pos rfl]
        · rw [if_neg q]; by_cases q' : n < k
          · rw [if_pos (by omega), if_pos q']
          · rw [if_neg (by omega), if_neg q']
  · rintro m' f' ⟨hE, hL, hR'⟩
    refine andNext (Ss.nil ?_)
    refine h f' ((E₁.mono (by simp)).trans (hE.mono fun x q => .tail _ q)) hL ?_
    rw [upd_ext (fun n r hn => ?_)] at hR'
    · exact hR'
    · have := (List.getElem?_eq_some_iff.mp hn).1
      rw [if_pos (by simpa using this)]

end Mine

namespace Mine
-- W4
set_option maxRecDepth 100000
set_option maxHeartbeats 2000000
theorem fillit4 : (PySem.Challenge.rw_nu0162_01 = PySem.Challenge.rw_nu0162_01) ∧ (∀ P, KK P = KK P) := by
  k_fill
  exact ⟨rfl, fun _ => rfl⟩
variable {w : World} {h₀ : Heap} {A : Around} {f f' : Fh}
def IsCls (w : World) (f : Fh) (c : Addr) (kvs : List (Int × Value)) : Prop := ∃ dc D, f c = some (.inst 185 dc) ∧ f dc = some (.dict [ent w.params "classes" (.ref D)]) ∧ f D = some (.idict kvs)
def IsGdef (w : World) (f : Fh) (g : Addr) (kvs : List (Int × Value)) : Prop :=
  ∃ dg c c2 s p q, f g = some (.inst 233 dg) ∧ f dg = some (.dict [ent w.params "classes" (.ref c), ent w.params "attach" (.ref c2), ent w.params "sets" (.ref s), ent w.params "points" (.ref p), ent w.params "carets" (.ref q)]) ∧ IsCls w f c kvs
theorem at_classes {P : Params} : AttrOk (KK P) 185 "classes" := ⟨by k_is, by k_is, _, by k_is, by k_is⟩
theorem at_classesG {P : Params} : AttrOk (KK P) 233 "classes" := ⟨by k_is, by k_is, _, by k_is, by k_is⟩
theorem mt_class_of {P : Params} : MethOk (KK P) 185 163 "class_of" := ⟨by k_is, by k_is, by k_is⟩
theorem mt_glyph_class {P : Params} : MethOk (KK P) 233 211 "glyph_class" := ⟨by k_is, by k_is, by k_is⟩
theorem kp_class_of {P : Params} : keepIn (KK P) (.ref 163) = true := by k_is
theorem kp_glyph_class {P : Params} : keepIn (KK P) (.ref 211) = true := by k_is
theorem gl_BASE {P : Params} : nsIn (KK P) mainGlobals "BASE" = some (some (.int 1 440)) := by k_is
theorem gl_COMPONENT {P : Params} : nsIn (KK P) mainGlobals "COMPONENT" = some (some (.int 4 442)) := by k_is
theorem gl_NO_CLASS {P : Params} : nsIn (KK P) mainGlobals "NO_CLASS" = some (some (.int 0 438)) := by k_is
theorem gl_MARK {P : Params} : nsIn (KK P) mainGlobals "MARK" = some (some (.int 3 329)) := by k_is
theorem Ex.gint {X : Cx} {m : Loc} {f : Fh} {P : Value → Fh → Prop} {x : PySem.Str} {pos : Pos} {i : Int} {t : Tok} (hG : X.G.Ok) (hv : nsIn X.G.K mainGlobals x = some (some (.int i t))) (h : P (iv i) f) (hk : X.env.scope.kind = .function := by rfl)
    (hl : X.env.kindOf x = some .globalImplicit := by rfl) (hg : X.env.globals = mainGlobals := by rfl) (hd : (x == ("__debug__" : PySem.Str)) = false := by decide) : Ex X m f (.Name x pos) P := Ex.global hG hv h hk hl hg hd
theorem class_of_spec {c : Addr} {kvs : List (Int × Value)} {k : Int} {P : Value → Fh → Prop} (hG : (GG w h₀).Ok) (hA : Rm 1 A) (C : IsCls w f c kvs) (h : P ((valueAt kvs k).getD (iv 0)) f) : Cd (GG w h₀) A f 163 [.ref c, iv k] P := by
  obtain ⟨dc, D, c1, c2, c3⟩ := C
  refine Cd.enter2 (n₁ := "self") (n₂ := "glyph") hG hA (ho_lit (by dsimp only; k_is) rfl) (by dsimp only; k_is) fun L hA => ?_
  refine Ss.ret (Ex.meth hG ?_ (pl := ?pl) (hc := ?hc)); (case hc => rfl)
  refine Ex.attr hG (Ex.name rfl ⟨c, 185, dc, _, .ref D, rfl, at_classes, c1, c2, rfl, rfl, ?_⟩)
  refine ⟨_, _, keep_builtin, meth_getI c3, ?_⟩
  (first
  | ((with_reducible refine' Ss.name ?_ ?h1 ?h2 ?h3); (case h1 => rfl); (case h2 => rfl); (case h3 => rfl))
  | (with_reducible refine' Ss.ret ?_)
  | (with_reducible refine' Ss.ret0 ?_)
  | ((with_reducible refine' Ss.set_xa ?h0 ?_ ?h2); (case h0 => assumption); (case h2 => rfl))
  | ((with_reducible refine' Ss.set_xo ?h0 ?_ ?h2); (case h0 => assumption); (case h2 => rfl))
  | ((with_reducible refine' Ss.set_parent ?h0 ?_ ?h2); (case h0 => assumption); (case h2 => rfl))
  | ((with_reducible refine' Ss.set_un ?h0 ?_ ?h2); (case h0 => assumption); (case h2 => rfl))
  | (with_reducible refine' Ss.cond ?_)
  | (with_reducible refine' Ss.nilA ?_)
  | (with_reducible refine' Ss.nil ?_)
  | (with_reducible refine' Ex.cint ?_)
  | (with_reducible refine' Ex.cstr ?_)
  | (with_reducible refine' Ex.cbool ?_)
  | (with_reducible refine' Ex.cnone ?_)
  | ((with_reducible refine' Ex.name ?h0 ?_ ?h2 ?h3 ?h4); (case h0 => rfl); (case h2 => rfl); (case h3 => rfl); (case h4 => decide))
  | (with_reducible refine' Ex.binop ?_)
  | ((with_reducible refine' Ex.cmp ?_ ?h1); (case h1 => rfl))
  | (with_reducible refine' Ex.neg ?_)
  | ((with_reducible refine' Ex.info ?h0 ?_ ?h2); (case h0 => assumption); (case h2 => rfl))
  | (with_reducible refine' Ex.ite ?_)
  | (with_reducible refine' Ex.or2 ?_)
  | (with_reducible refine' Ex.and2 ?_)
  | (with_reducible refine' Ex.bool1 ?_)
  | ((with_reducible refine' Ts.cmp ?_ ?h1); (case h1 => rfl))
  | (with_reducible refine' Ts.and2 ?_)
  | (with_reducible refine' TrB.and1 ?_)
  | (with_reducible refine' TrB.and0 ?_)
  | (with_reducible refine' TrB.or1 ?_)
  | (with_reducible refine' TrB.or0 ?_)
  | (with_reducible refine' Bo.add ?_)
  | (with_reducible refine' Bo.sub ?_)
  | ((with_reducible refine' Bo.shr ?h0 ?_); (case h0 => decide))
  | (with_reducible refine' Bo.and ?_)
  | (with_reducible refine' Co.eq ?_)
  | (with_reducible refine' Co.ne ?_)
  | (with_reducible refine' Co.lt ?_)
  | (with_reducible refine' Co.le ?_)
  | (with_reducible refine' Co.gt ?_)
  | (with_reducible refine' Co.ge ?_)
  | (with_reducible refine' Co.eqb ?_)
  | (with_reducible refine' Tt.int ?_)
  | (with_reducible refine' Tt.bool ?_)
  | ((with_reducible refine' Ar.cons ?_ ?h1); (case h1 => rfl))
  | (with_reducible refine' Ar.nil ?_)
  | (with_reducible refine' Ex.tup ?_)
  | (with_reducible refine' Ex.list ?_)
  | refine ⟨_, _, _, _, rfl, rfl, (by first | assumption | exact IsInfo.self (by (first | assumption | exact IsInfo.self (by assumption) | exact IsInfo.upd (by assumption) (by assumption) (by first | assumption | (apply Ne.symm; assumption)))) | exact IsInfo.upd (by (first | assumption | exact IsInfo.self (by assumption) | exact IsInfo.upd (by assumption) (by assumption) (by first | assumption | (apply Ne.symm; assumption)))) (by (first | assumption | exact IsInfo.self (by assumption) | exact IsInfo.upd (by assumption) (by assumption) (by first | assumption | (apply Ne.symm; assumption)))) (by first | assumption | (apply Ne.symm; assumption))), ?_⟩
  | refine ⟨_, _, _, _, rfl, (by (first | assumption | exact IsInfo.self (by (first | assumption | exact IsInfo.self (by assumption) | exact IsInfo.upd (by assumption) (by assumption) (by first | assumption | (apply Ne.symm; assumption)))) | exact IsInfo.upd (by (first | assumption | exact IsInfo.self (by assumption) | exact IsInfo.upd (by assumption) (by assumption) (by first | assumption | (apply Ne.symm; assumption)))) (by (first | assumption | exact IsInfo.self (by assumption) | exact IsInfo.upd (by assumption) (by assumption) (by first | assumption | (apply Ne.symm; assumption)))) (by first | assumption | (apply Ne.symm; assumption)))), (by simp), rfl, rfl, ?_⟩)
  (first
  | ((with_reducible refine' Ss.name ?_ ?h1 ?h2 ?h3); (case h1 => rfl); (case h2 => rfl); (case h3 => rfl))
  | (with_reducible refine' Ss.ret ?_)
  | (with_reducible refine' Ss.ret0 ?_)
  | ((with_reducible refine' Ss.set_xa ?h0 ?_ ?h2); (case h0 => assumption); (case h2 => rfl))
  | ((with_reducible refine' Ss.set_xo ?h0 ?_ ?h2); (case h0 => assumption); (case h2 => rfl))
  | ((with_reducible refine' Ss.set_parent ?h0 ?_ ?h2); (case h0 => assumption); (case h2 => rfl))
  | ((with_reducible refine' Ss.set_un ?h0 ?_ ?h2); (case h0 => assumption); (case h2 => rfl))
  | (with_reducible refine' Ss.cond ?_)
  | (with_reducible refine' Ss.nilA ?_)
  | (with_reducible refine' Ss.nil ?_)
  | (with_reducible refine' Ex.cint ?_)
  | (with_reducible refine' Ex.cstr ?_)
  | (with_reducible refine' Ex.cbool ?_)
  | (with_reducible refine' Ex.cnone ?_)
  | ((with_reducible refine' Ex.name ?h0 ?_ ?h2 ?h3 ?h4); (case h0 => rfl); (case h2 => rfl); (case h3 => rfl); (case h4 => decide))
  | (with_reducible refine' Ex.binop ?_)
  | ((with_reducible refine' Ex.cmp ?_ ?h1); (case h1 => rfl))
  | (with_reducible refine' Ex.neg ?_)
  | ((with_reducible refine' Ex.info ?h0 ?_ ?h2); (case h0 => assumption); (case h2 => rfl))
  | (with_reducible refine' Ex.ite ?_)
  | (with_reducible refine' Ex.or2 ?_)
  | (with_reducible refine' Ex.and2 ?_)
  | (with_reducible refine' Ex.bool1 ?_)
  | ((with_reducible refine' Ts.cmp ?_ ?h1); (case h1 => rfl))
  | (with_reducible refine' Ts.and2 ?_)
  | (with_reducible refine' TrB.and1 ?_)
  | (with_reducible refine' TrB.and0 ?_)
  | (with_reducible refine' TrB.or1 ?_)
  | (with_reducible refine' TrB.or0 ?_)
  | (with_reducible refine' Bo.add ?_)
  | (with_reducible refine' Bo.sub ?_)
  | ((with_reducible refine' Bo.shr ?h0 ?_); (case h0 => decide))
  | (with_reducible refine' Bo.and ?_)
  | (with_reducible refine' Co.eq ?_)
  | (with_reducible refine' Co.ne ?_)
  | (with_reducible refine' Co.lt ?_)
  | (with_reducible refine' Co.le ?_)
  | (with_reducible refine' Co.gt ?_)
  | (with_reducible refine' Co.ge ?_)
  | (with_reducible refine' Co.eqb ?_)
  | (with_reducible refine' Tt.int ?_)
  | (with_reducible refine' Tt.bool ?_)
  | ((with_reducible refine' Ar.cons ?_ ?h1); (case h1 => rfl))
  | (with_reducible refine' Ar.nil ?_)
  | (with_reducible refine' Ex.tup ?_)
  | (with_reducible refine' Ex.list ?_)
  | refine ⟨_, _, _, _, rfl, rfl, (by first | assumption | exact IsInfo.self (by (first | assumption | exact IsInfo.self (by assumption) | exact IsInfo.upd (by assumption) (by assumption) (by first | assumption | (apply Ne.symm; assumption)))) | exact IsInfo.upd (by (first | assumption | exact IsInfo.self (by assumption) | exact IsInfo.upd (by assumption) (by assumption) (by first | assumption | (apply Ne.symm; assumption)))) (by (first | assumption | exact IsInfo.self (by assumption) | exact IsInfo.upd (by assumption) (by assumption) (by first | assumption | (apply Ne.symm; assumption)))) (by first | assumption | (apply Ne.symm; assumption))), ?_⟩
  | refine ⟨_, _, _, _, rfl, (by (first | assumption | exact IsInfo.self (by (first | assumption | exact IsInfo.self (by assumption) | exact IsInfo.upd (by assumption) (by assumption) (by first | assumption | (apply Ne.symm; assumption)))) | exact IsInfo.upd (by (first | assumption | exact IsInfo.self (by assumption) | exact IsInfo.upd (by assumption) (by assumption) (by first | assumption | (apply Ne.symm; assumption)))) (by (first | assumption | exact IsInfo.self (by assumption) | exact IsInfo.upd (by assumption) (by assumption) (by first | assumption | (apply Ne.symm; assumption)))) (by first | assumption | (apply Ne.symm; assumption)))), (by simp), rfl, rfl, ?_⟩)
  (first
  | ((with_reducible refine' Ss.name ?_ ?h1 ?h2 ?h3); (case h1 => rfl); (case h2 => rfl); (case h3 => rfl))
  | (with_reducible refine' Ss.ret ?_)
  | (with_reducible refine' Ss.ret0 ?_)
  | ((with_reducible refine' Ss.set_xa ?h0 ?_ ?h2); (case h0 => assumption); (case h2 => rfl))
  | ((with_reducible refine' Ss.set_xo ?h0 ?_ ?h2); (case h0 => assumption); (case h2 => rfl))
  | ((with_reducible refine' Ss.set_parent ?h0 ?_ ?h2); (case h0 => assumption); (case h2 => rfl))
  | ((with_reducible refine' Ss.set_un ?h0 ?_ ?h2); (case h0 => assumption); (case h2 => rfl))
  | (with_reducible refine' Ss.cond ?_)
  | (with_reducible refine' Ss.nilA ?_)
  | (with_reducible refine' Ss.nil ?_)
  | (with_reducible refine' Ex.cint ?_)
  | (with_reducible refine' Ex.cstr ?_)
  | (with_reducible refine' Ex.cbool ?_)
  | (with_reducible refine' Ex.cnone ?_)
  | ((with_reducible refine' Ex.name ?h0 ?_ ?h2 ?h3 ?h4); (case h0 => rfl); (case h2 => rfl); (case h3 => rfl); (case h4 => decide))
  | (with_reducible refine' Ex.binop ?_)
  | ((with_reducible refine' Ex.cmp ?_ ?h1); (case h1 => rfl))
  | (with_reducible refine' Ex.neg ?_)
  | ((with_reducible refine' Ex.info ?h0 ?_ ?h2); (case h0 => assumption); (case h2 => rfl))
  | (with_reducible refine' Ex.ite ?_)
  | (with_reducible refine' Ex.or2 ?_)
  | (with_reducible refine' Ex.and2 ?_)
  | (with_reducible refine' Ex.bool1 ?_)
  | ((with_reducible refine' Ts.cmp ?_ ?h1); (case h1 => rfl))
  | (with_reducible refine' Ts.and2 ?_)
  | (with_reducible refine' TrB.and1 ?_)
  | (with_reducible refine' TrB.and0 ?_)
  | (with_reducible refine' TrB.or1 ?_)
  | (with_reducible refine' TrB.or0 ?_)
  | (with_reducible refine' Bo.add ?_)
  | (with_reducible refine' Bo.sub ?_)
  | ((with_reducible refine' Bo.shr ?h0 ?_); (case h0 => decide))
  | (with_reducible refine' Bo.and ?_)
  | (with_reducible refine' Co.eq ?_)
  | (with_reducible refine' Co.ne ?_)
  | (with_reducible refine' Co.lt ?_)
  | (with_reducible refine' Co.le ?_)
  | (with_reducible refine' Co.gt ?_)
  | (with_reducible refine' Co.ge ?_)
  | (with_reducible refine' Co.eqb ?_)
  | (with_reducible refine' Tt.int ?_)
  | (with_reducible refine' Tt.bool ?_)
  | ((with_reducible refine' Ar.cons ?_ ?h1); (case h1 => rfl))
  | (with_reducible refine' Ar.nil ?_)
  | (with_reducible refine' Ex.tup ?_)
  | (with_reducible refine' Ex.list ?_)
  | refine ⟨_, _, _, _, rfl, rfl, (by first | assumption | exact IsInfo.self (by (first | assumption | exact IsInfo.self (by assumption) | exact IsInfo.upd (by assumption) (by assumption) (by first | assumption | (apply Ne.symm; assumption)))) | exact IsInfo.upd (by (first | assumption | exact IsInfo.self (by assumption) | exact IsInfo.upd (by assumption) (by assumption) (by first | assumption | (apply Ne.symm; assumption)))) (by (first | assumption | exact IsInfo.self (by assumption) | exact IsInfo.upd (by assumption) (by assumption) (by first | assumption | (apply Ne.symm; assumption)))) (by first | assumption | (apply Ne.symm; assumption))), ?_⟩
  | refine ⟨_, _, _, _, rfl, (by (first | assumption | exact IsInfo.self (by (first | assumption | exact IsInfo.self (by assumption) | exact IsInfo.upd (by assumption) (by assumption) (by first | assumption | (apply Ne.symm; assumption)))) | exact IsInfo.upd (by (first | assumption | exact IsInfo.self (by assumption) | exact IsInfo.upd (by assumption) (by assumption) (by first | assumption | (apply Ne.symm; assumption)))) (by (first | assumption | exact IsInfo.self (by assumption) | exact IsInfo.upd (by assumption) (by assumption) (by first | assumption | (apply Ne.symm; assumption)))) (by first | assumption | (apply Ne.symm; assumption)))), (by simp), rfl, rfl, ?_⟩)
  (first
  | ((with_reducible refine' Ss.name ?_ ?h1 ?h2 ?h3); (case h1 => rfl); (case h2 => rfl); (case h3 => rfl))
  | (with_reducible refine' Ss.ret ?_)
  | (with_reducible refine' Ss.ret0 ?_)
  | ((with_reducible refine' Ss.set_xa ?h0 ?_ ?h2); (case h0 => assumption); (case h2 => rfl))
  | ((with_reducible refine' Ss.set_xo ?h0 ?_ ?h2); (case h0 => assumption); (case h2 => rfl))
  | ((with_reducible refine' Ss.set_parent ?h0 ?_ ?h2); (case h0 => assumption); (case h2 => rfl))
  | ((with_reducible refine' Ss.set_un ?h0 ?_ ?h2); (case h0 => assumption); (case h2 => rfl))
  | (with_reducible refine' Ss.cond ?_)
  | (with_reducible refine' Ss.nilA ?_)
  | (with_reducible refine' Ss.nil ?_)
  | (with_reducible refine' Ex.cint ?_)
  | (with_reducible refine' Ex.cstr ?_)
  | (with_reducible refine' Ex.cbool ?_)
  | (with_reducible refine' Ex.cnone ?_)
  | ((with_reducible refine' Ex.name ?h0 ?_ ?h2 ?h3 ?h4); (case h0 => rfl); (case h2 => rfl); (case h3 => rfl); (case h4 => decide))
  | (with_reducible refine' Ex.binop ?_)
  | ((with_reducible refine' Ex.cmp ?_ ?h1); (case h1 => rfl))
  | (with_reducible refine' Ex.neg ?_)
  | ((with_reducible refine' Ex.info ?h0 ?_ ?h2); (case h0 => assumption); (case h2 => rfl))
  | (with_reducible refine' Ex.ite ?_)
  | (with_reducible refine' Ex.or2 ?_)
  | (with_reducible refine' Ex.and2 ?_)
  | (with_reducible refine' Ex.bool1 ?_)
  | ((with_reducible refine' Ts.cmp ?_ ?h1); (case h1 => rfl))
  | (with_reducible refine' Ts.and2 ?_)
  | (with_reducible refine' TrB.and1 ?_)
  | (with_reducible refine' TrB.and0 ?_)
  | (with_reducible refine' TrB.or1 ?_)
  | (with_reducible refine' TrB.or0 ?_)
  | (with_reducible refine' Bo.add ?_)
  | (with_reducible refine' Bo.sub ?_)
  | ((with_reducible refine' Bo.shr ?h0 ?_); (case h0 => decide))
  | (with_reducible refine' Bo.and ?_)
  | (with_reducible refine' Co.eq ?_)
  | (with_reducible refine' Co.ne ?_)
  | (with_reducible refine' Co.lt ?_)
  | (with_reducible refine' Co.le ?_)
  | (with_reducible refine' Co.gt ?_)
  | (with_reducible refine' Co.ge ?_)
  | (with_reducible refine' Co.eqb ?_)
  | (with_reducible refine' Tt.int ?_)
  | (with_reducible refine' Tt.bool ?_)
  | ((with_reducible refine' Ar.cons ?_ ?h1); (case h1 => rfl))
  | (with_reducible refine' Ar.nil ?_)
  | (with_reducible refine' Ex.tup ?_)
  | (with_reducible refine' Ex.list ?_)
  | refine ⟨_, _, _, _, rfl, rfl, (by first | assumption | exact IsInfo.self (by (first | assumption | exact IsInfo.self (by assumption) | exact IsInfo.upd (by assumption) (by assumption) (by first | assumption | (apply Ne.symm; assumption)))) | exact IsInfo.upd (by (first | assumption | exact IsInfo.self (by assumption) | exact IsInfo.upd (by assumption) (by assumption) (by first | assumption | (apply Ne.symm; assumption)))) (by (first | assumption | exact IsInfo.self (by assumption) | exact IsInfo.upd (by assumption) (by assumption) (by first | assumption | (apply Ne.symm; assumption)))) (by first | assumption | (apply Ne.symm; assumption))), ?_⟩
  | refine ⟨_, _, _, _, rfl, (by (first | assumption | exact IsInfo.self (by (first | assumption | exact IsInfo.self (by assumption) | exact IsInfo.upd (by assumption) (by assumption) (by first | assumption | (apply Ne.symm; assumption)))) | exact IsInfo.upd (by (first | assumption | exact IsInfo.self (by assumption) | exact IsInfo.upd (by assumption) (by assumption) (by first | assumption | (apply Ne.symm; assumption)))) (by (first | assumption | exact IsInfo.self (by assumption) | exact IsInfo.upd (by assumption) (by assumption) (by first | assumption | (apply Ne.symm; assumption)))) (by first | assumption | (apply Ne.symm; assumption)))), (by simp), rfl, rfl, ?_⟩)
  (first
  | ((with_reducible refine' Ss.name ?_ ?h1 ?h2 ?h3); (case h1 => rfl); (case h2 => rfl); (case h3 => rfl))
  | (with_reducible refine' Ss.ret ?_)
  | (with_reducible refine' Ss.ret0 ?_)
  | ((with_reducible refine' Ss.set_xa ?h0 ?_ ?h2); (case h0 => assumption); (case h2 => rfl))
  | ((with_reducible refine' Ss.set_xo ?h0 ?_ ?h2); (case h0 => assumption); (case h2 => rfl))
  | ((with_reducible refine' Ss.set_parent ?h0 ?_ ?h2); (case h0 => assumption); (case h2 => rfl))
  | ((with_reducible refine' Ss.set_un ?h0 ?_ ?h2); (case h0 => assumption); (case h2 => rfl))
  | (with_reducible refine' Ss.cond ?_)
  | (with_reducible refine' Ss.nilA ?_)
  | (with_reducible refine' Ss.nil ?_)
  | (with_reducible refine' Ex.cint ?_)
  | (with_reducible refine' Ex.cstr ?_)
  | (with_reducible refine' Ex.cbool ?_)
  | (with_reducible refine' Ex.cnone ?_)
  | ((with_reducible refine' Ex.name ?h0 ?_ ?h2 ?h3 ?h4); (case h0 => rfl); (case h2 => rfl); (case h3 => rfl); (case h4 => decide))
  | (with_reducible refine' Ex.binop ?_)
  | ((with_reducible refine' Ex.cmp ?_ ?h1); (case h1 => rfl))
  | (with_reducible refine' Ex.neg ?_)
  | ((with_reducible refine' Ex.info ?h0 ?_ ?h2); (case h0 => assumption); (case h2 => rfl))
  | (with_reducible refine' Ex.ite ?_)
  | (with_reducible refine' Ex.or2 ?_)
  | (with_reducible refine' Ex.and2 ?_)
  | (with_reducible refine' Ex.bool1 ?_)
  | ((with_reducible refine' Ts.cmp ?_ ?h1); (case h1 => rfl))
  | (with_reducible refine' Ts.and2 ?_)
  | (with_reducible refine' TrB.and1 ?_)
  | (with_reducible refine' TrB.and0 ?_)
  | (with_reducible refine' TrB.or1 ?_)
  | (with_reducible refine' TrB.or0 ?_)
  | (with_reducible refine' Bo.add ?_)
  | (with_reducible refine' Bo.sub ?_)
  | ((with_reducible refine' Bo.shr ?h0 ?_); (case h0 => decide))
  | (with_reducible refine' Bo.and ?_)
  | (with_reducible refine' Co.eq ?_)
  | (with_reducible refine' Co.ne ?_)
  | (with_reducible refine' Co.lt ?_)
  | (with_reducible refine' Co.le ?_)
  | (with_reducible refine' Co.gt ?_)
  | (with_reducible refine' Co.ge ?_)
  | (with_reducible refine' Co.eqb ?_)
  | (with_reducible refine' Tt.int ?_)
  | (with_reducible refine' Tt.bool ?_)
  | ((with_reducible refine' Ar.cons ?_ ?h1); (case h1 => rfl))
  | (with_reducible refine' Ar.nil ?_)
  | (with_reducible refine' Ex.tup ?_)
  | (with_reducible refine' Ex.list ?_)
  | refine ⟨_, _, _, _, rfl, rfl, (by first | assumption | exact IsInfo.self (by (first | assumption | exact IsInfo.self (by assumption) | exact IsInfo.upd (by assumption) (by assumption) (by first | assumption | (apply Ne.symm; assumption)))) | exact IsInfo.upd (by (first | assumption | exact IsInfo.self (by assumption) | exact IsInfo.upd (by assumption) (by assumption) (by first | assumption | (apply Ne.symm; assumption)))) (by (first | assumption | exact IsInfo.self (by assumption) | exact IsInfo.upd (by assumption) (by assumption) (by first | assumption | (apply Ne.symm; assumption)))) (by first | assumption | (apply Ne.symm; assumption))), ?_⟩
  | refine ⟨_, _, _, _, rfl, (by (first | assumption | exact IsInfo.self (by (first | assumption | exact IsInfo.self (by assumption) | exact IsInfo.upd (by assumption) (by assumption) (by first | assumption | (apply Ne.symm; assumption)))) | exact IsInfo.upd (by (first | assumption | exact IsInfo.self (by assumption) | exact IsInfo.upd (by assumption) (by assumption) (by first | assumption | (apply Ne.symm; assumption)))) (by (first | assumption | exact IsInfo.self (by assumption) | exact IsInfo.upd (by assumption) (by assumption) (by first | assumption | (apply Ne.symm; assumption)))) (by first | assumption | (apply Ne.symm; assumption)))), (by simp), rfl, rfl, ?_⟩)
  exact Ca.getI hG c3 h
theorem glyph_class_spec {g : Addr} {kvs : List (Int × Value)} {k n : Int} {P : Value → Fh → Prop} (hG : (GG w h₀).Ok) (hA : Rm 2 A) (C : IsGdef w f g kvs) (hv : (valueAt kvs k).getD (iv 0) = iv n) (h : P (iv (if 1 ≤ n ∧ n ≤ 4 then n else 0)) f) : Cd (GG w h₀) A f 211 [.ref g, iv k] P := by
  obtain ⟨dg, c, c2, s, p, q, e1, e2, e3⟩ := C
  refine Cd.enter2 (n₁ := "self") (n₂ := "glyph") hG hA (ho_lit (by dsimp only; k_is) rfl) (by dsimp only; k_is) fun L hA => ?_
  refine Ss.name (Ex.meth hG ?_ (pl := ?pl) (hc := ?hc)); (case hc => rfl)
  refine Ex.attr hG (Ex.name rfl ⟨g, 233, dg, _, .ref c, rfl, at_classesG, e1, e2, rfl, rfl, ?_⟩)
  obtain ⟨dc, D, c1, c3, c4⟩ := id e3
  refine ⟨_, _, keep_K kp_class_of, meth_inst hG mt_class_of c1 c3 rfl, ?_⟩
  (first
  | ((with_reducible refine' Ss.name ?_ ?h1 ?h2 ?h3); (case h1 => rfl); (case h2 => rfl); (case h3 => rfl))
  | (with_reducible refine' Ss.ret ?_)
  | (with_reducible refine' Ss.ret0 ?_)
  | ((with_reducible refine' Ss.set_xa ?h0 ?_ ?h2); (case h0 => assumption); (case h2 => rfl))
  | ((with_reducible refine' Ss.set_xo ?h0 ?_ ?h2); (case h0 => assumption); (case h2 => rfl))
  | ((with_reducible refine' Ss.set_parent ?h0 ?_ ?h2); (case h0 => assumption); (case h2 => rfl))
  | ((with_reducible refine' Ss.set_un ?h0 ?_ ?h2); (case h0 => assumption); (case h2 => rfl))
  | (with_reducible refine' Ss.cond ?_)
  | (with_reducible refine' Ss.nilA ?_)
  | (with_reducible refine' Ss.nil ?_)
  | (with_reducible refine' Ex.cint ?_)
  | (with_reducible refine' Ex.cstr ?_)
  | (with_reducible refine' Ex.cbool ?_)
  | (with_reducible refine' Ex.cnone ?_)
  | ((with_reducible refine' Ex.name ?h0 ?_ ?h2 ?h3 ?h4); (case h0 => rfl); (case h2 => rfl); (case h3 => rfl); (case h4 => decide))
  | (with_reducible refine' Ex.binop ?_)
  | ((with_reducible refine' Ex.cmp ?_ ?h1); (case h1 => rfl))
  | (with_reducible refine' Ex.neg ?_)
  | ((with_reducible refine' Ex.info ?h0 ?_ ?h2); (case h0 => assumption); (case h2 => rfl))
  | (with_reducible refine' Ex.ite ?_)
  | (with_reducible refine' Ex.or2 ?_)
  | (with_reducible refine' Ex.and2 ?_)
  | (with_reducible refine' Ex.bool1 ?_)
  | ((with_reducible refine' Ts.cmp ?_ ?h1); (case h1 => rfl))
  | (with_reducible refine' Ts.and2 ?_)
  | (with_reducible refine' TrB.and1 ?_)
  | (with_reducible refine' TrB.and0 ?_)
  | (with_reducible refine' TrB.or1 ?_)
  | (with_reducible refine' TrB.or0 ?_)
  | (with_reducible refine' Bo.add ?_)
  | (with_reducible refine' Bo.sub ?_)
  | ((with_reducible refine' Bo.shr ?h0 ?_); (case h0 => decide))
  | (with_reducible refine' Bo.and ?_)
  | (with_reducible refine' Co.eq ?_)
  | (with_reducible refine' Co.ne ?_)
  | (with_reducible refine' Co.lt ?_)
  | (with_reducible refine' Co.le ?_)
  | (with_reducible refine' Co.gt ?_)
  | (with_reducible refine' Co.ge ?_)
  | (with_reducible refine' Co.eqb ?_)
  | (with_reducible refine' Tt.int ?_)
  | (with_reducible refine' Tt.bool ?_)
  | ((with_reducible refine' Ar.cons ?_ ?h1); (case h1 => rfl))
  | (with_reducible refine' Ar.nil ?_)
  | (with_reducible refine' Ex.tup ?_)
  | (with_reducible refine' Ex.list ?_)
  | refine ⟨_, _, _, _, rfl, rfl, (by first | assumption | exact IsInfo.self (by (first | assumption | exact IsInfo.self (by assumption) | exact IsInfo.upd (by assumption) (by assumption) (by first | assumption | (apply Ne.symm; assumption)))) | exact IsInfo.upd (by (first | assumption | exact IsInfo.self (by assumption) | exact IsInfo.upd (by assumption) (by assumption) (by first | assumption | (apply Ne.symm; assumption)))) (by (first | assumption | exact IsInfo.self (by assumption) | exact IsInfo.upd (by assumption) (by assumption) (by first | assumption | (apply Ne.symm; assumption)))) (by first | assumption | (apply Ne.symm; assumption))), ?_⟩
  | refine ⟨_, _, _, _, rfl, (by (first | assumption | exact IsInfo.self (by (first | assumption | exact IsInfo.self (by assumption) | exact IsInfo.upd (by assumption) (by assumption) (by first | assumption | (apply Ne.symm; assumption)))) | exact IsInfo.upd (by (first | assumption | exact IsInfo.self (by assumption) | exact IsInfo.upd (by assumption) (by assumption) (by first | assumption | (apply Ne.symm; assumption)))) (by (first | assumption | exact IsInfo.self (by assumption) | exact IsInfo.upd (by assumption) (by assumption) (by first | assumption | (apply Ne.symm; assumption)))) (by first | assumption | (apply Ne.symm; assumption)))), (by simp), rfl, rfl, ?_⟩)
  (first
  | ((with_reducible refine' Ss.name ?_ ?h1 ?h2 ?h3); (case h1 => rfl); (case h2 => rfl); (case h3 => rfl))
  | (with_reducible refine' Ss.ret ?_)
  | (with_reducible refine' Ss.ret0 ?_)
  | ((with_reducible refine' Ss.set_xa ?h0 ?_ ?h2); (case h0 => assumption); (case h2 => rfl))
  | ((with_reducible refine' Ss.set_xo ?h0 ?_ ?h2); (case h0 => assumption); (case h2 => rfl))
  | ((with_reducible refine' Ss.set_parent ?h0 ?_ ?h2); (case h0 => assumption); (case h2 => rfl))
  | ((with_reducible refine' Ss.set_un ?h0 ?_ ?h2); (case h0 => assumption); (case h2 => rfl))
  | (with_reducible refine' Ss.cond ?_)
  | (with_reducible refine' Ss.nilA ?_)
  | (with_reducible refine' Ss.nil ?_)
  | (with_reducible refine' Ex.cint ?_)
  | (with_reducible refine' Ex.cstr ?_)
  | (with_reducible refine' Ex.cbool ?_)
  | (with_reducible refine' Ex.cnone ?_)
  | ((with_reducible refine' Ex.name ?h0 ?_ ?h2 ?h3 ?h4); (case h0 => rfl); (case h2 => rfl); (case h3 => rfl); (case h4 => decide))
  | (with_reducible refine' Ex.binop ?_)
  | ((with_reducible refine' Ex.cmp ?_ ?h1); (case h1 => rfl))
  | (with_reducible refine' Ex.neg ?_)
  | ((with_reducible refine' Ex.info ?h0 ?_ ?h2); (case h0 => assumption); (case h2 => rfl))
  | (with_reducible refine' Ex.ite ?_)
  | (with_reducible refine' Ex.or2 ?_)
  | (with_reducible refine' Ex.and2 ?_)
  | (with_reducible refine' Ex.bool1 ?_)
  | ((with_reducible refine' Ts.cmp ?_ ?h1); (case h1 => rfl))
  | (with_reducible refine' Ts.and2 ?_)
  | (with_reducible refine' TrB.and1 ?_)
  | (with_reducible refine' TrB.and0 ?_)
  | (with_reducible refine' TrB.or1 ?_)
  | (with_reducible refine' TrB.or0 ?_)
  | (with_reducible refine' Bo.add ?_)
  | (with_reducible refine' Bo.sub ?_)
  | ((with_reducible refine' Bo.shr ?h0 ?_); (case h0 => decide))
  | (with_reducible refine' Bo.and ?_)
  | (with_reducible refine' Co.eq ?_)
  | (with_reducible refine' Co.ne ?_)
  | (with_reducible refine' Co.lt ?_)
  | (with_reducible refine' Co.le ?_)
  | (with_reducible refine' Co.gt ?_)
  | (with_reducible refine' Co.ge ?_)
  | (with_reducible refine' Co.eqb ?_)
  | (with_reducible refine' Tt.int ?_)
  | (with_reducible refine' Tt.bool ?_)
  | ((with_reducible refine' Ar.cons ?_ ?h1); (case h1 => rfl))
  | (with_reducible refine' Ar.nil ?_)
  | (with_reducible refine' Ex.tup ?_)
  | (with_reducible refine' Ex.list ?_)
  | refine ⟨_, _, _, _, rfl, rfl, (by first | assumption | exact IsInfo.self (by (first | assumption | exact IsInfo.self (by assumption) | exact IsInfo.upd (by assumption) (by assumption) (by first | assumption | (apply Ne.symm; assumption)))) | exact IsInfo.upd (by (first | assumption | exact IsInfo.self (by assumption) | exact IsInfo.upd (by assumption) (by assumption) (by first | assumption | (apply Ne.symm; assumption)))) (by (first | assumption | exact IsInfo.self (by assumption) | exact IsInfo.upd (by assumption) (by assumption) (by first | assumption | (apply Ne.symm; assumption)))) (by first | assumption | (apply Ne.symm; assumption))), ?_⟩
  | refine ⟨_, _, _, _, rfl, (by (first | assumption | exact IsInfo.self (by (first | assumption | exact IsInfo.self (by assumption) | exact IsInfo.upd (by assumption) (by assumption) (by first | assumption | (apply Ne.symm; assumption)))) | exact IsInfo.upd (by (first | assumption | exact IsInfo.self (by assumption) | exact IsInfo.upd (by assumption) (by assumption) (by first | assumption | (apply Ne.symm; assumption)))) (by (first | assumption | exact IsInfo.self (by assumption) | exact IsInfo.upd (by assumption) (by assumption) (by first | assumption | (apply Ne.symm; assumption)))) (by first | assumption | (apply Ne.symm; assumption)))), (by simp), rfl, rfl, ?_⟩)
  (first
  | ((with_reducible refine' Ss.name ?_ ?h1 ?h2 ?h3); (case h1 => rfl); (case h2 => rfl); (case h3 => rfl))
  | (with_reducible refine' Ss.ret ?_)
  | (with_reducible refine' Ss.ret0 ?_)
  | ((with_reducible refine' Ss.set_xa ?h0 ?_ ?h2); (case h0 => assumption); (case h2 => rfl))
  | ((with_reducible refine' Ss.set_xo ?h0 ?_ ?h2); (case h0 => assumption); (case h2 => rfl))
  | ((with_reducible refine' Ss.set_parent ?h0 ?_ ?h2); (case h0 => assumption); (case h2 => rfl))
  | ((with_reducible refine' Ss.set_un ?h0 ?_ ?h2); (case h0 => assumption); (case h2 => rfl))
  | (with_reducible refine' Ss.cond ?_)
  | (with_reducible refine' Ss.nilA ?_)
  | (with_reducible refine' Ss.nil ?_)
  | (with_reducible refine' Ex.cint ?_)
  | (with_reducible refine' Ex.cstr ?_)
  | (with_reducible refine' Ex.cbool ?_)
  | (with_reducible refine' Ex.cnone ?_)
  | ((with_reducible refine' Ex.name ?h0 ?_ ?h2 ?h3 ?h4); (case h0 => rfl); (case h2 => rfl); (case h3 => rfl); (case h4 => decide))
  | (with_reducible refine' Ex.binop ?_)
  | ((with_reducible refine' Ex.cmp ?_ ?h1); (case h1 => rfl))
  | (with_reducible refine' Ex.neg ?_)
  | ((with_reducible refine' Ex.info ?h0 ?_ ?h2); (case h0 => assumption); (case h2 => rfl))
  | (with_reducible refine' Ex.ite ?_)
  | (with_reducible refine' Ex.or2 ?_)
  | (with_reducible refine' Ex.and2 ?_)
  | (with_reducible refine' Ex.bool1 ?_)
  | ((with_reducible refine' Ts.cmp ?_ ?h1); (case h1 => rfl))
  | (with_reducible refine' Ts.and2 ?_)
  | (with_reducible refine' TrB.and1 ?_)
  | (with_reducible refine' TrB.and0 ?_)
  | (with_reducible refine' TrB.or1 ?_)
  | (with_reducible refine' TrB.or0 ?_)
  | (with_reducible refine' Bo.add ?_)
  | (with_reducible refine' Bo.sub ?_)
  | ((with_reducible refine' Bo.shr ?h0 ?_); (case h0 => decide))
  | (with_reducible refine' Bo.and ?_)
  | (with_reducible refine' Co.eq ?_)
  | (with_reducible refine' Co.ne ?_)
  | (with_reducible refine' Co.lt ?_)
  | (with_reducible refine' Co.le ?_)
  | (with_reducible refine' Co.gt ?_)
  | (with_reducible refine' Co.ge ?_)
  | (with_reducible refine' Co.eqb ?_)
  | (with_reducible refine' Tt.int ?_)
  | (with_reducible refine' Tt.bool ?_)
  | ((with_reducible refine' Ar.cons ?_ ?h1); (case h1 => rfl))
  | (with_reducible refine' Ar.nil ?_)
  | (with_reducible refine' Ex.tup ?_)
  | (with_reducible refine' Ex.list ?_)
  | refine ⟨_, _, _, _, rfl, rfl, (by first | assumption | exact IsInfo.self (by (first | assumption | exact IsInfo.self (by assumption) | exact IsInfo.upd (by assumption) (by assumption) (by first | assumption | (apply Ne.symm; assumption)))) | exact IsInfo.upd (by (first | assumption | exact IsInfo.self (by assumption) | exact IsInfo.upd (by assumption) (by assumption) (by first | assumption | (apply Ne.symm; assumption)))) (by (first | assumption | exact IsInfo.self (by assumption) | exact IsInfo.upd (by assumption) (by assumption) (by first | assumption | (apply Ne.symm; assumption)))) (by first | assumption | (apply Ne.symm; assumption))), ?_⟩
  | refine ⟨_, _, _, _, rfl, (by (first | assumption | exact IsInfo.self (by (first | assumption | exact IsInfo.self (by assumption) | exact IsInfo.upd (by assumption) (by assumption) (by first | assumption | (apply Ne.symm; assumption)))) | exact IsInfo.upd (by (first | assumption | exact IsInfo.self (by assumption) | exact IsInfo.upd (by assumption) (by assumption) (by first | assumption | (apply Ne.symm; assumption)))) (by (first | assumption | exact IsInfo.self (by assumption) | exact IsInfo.upd (by assumption) (by assumption) (by first | assumption | (apply Ne.symm; assumption)))) (by first | assumption | (apply Ne.symm; assumption)))), (by simp), rfl, rfl, ?_⟩)
  refine Ca.def (class_of_spec hG hA e3 ?_)
  rw [hv]
  refine Ss.ret (Ex.ite (Ts.chain (Ex.gint hG gl_BASE ?_)))
  (first
  | ((with_reducible refine' Ss.name ?_ ?h1 ?h2 ?h3); (case h1 => rfl); (case h2 => rfl); (case h3 => rfl))
  | (with_reducible refine' Ss.ret ?_)
  | (with_reducible refine' Ss.ret0 ?_)
  | ((with_reducible refine' Ss.set_xa ?h0 ?_ ?h2); (case h0 => assumption); (case h2 => rfl))
  | ((with_reducible refine' Ss.set_xo ?h0 ?_ ?h2); (case h0 => assumption); (case h2 => rfl))
  | ((with_reducible refine' Ss.set_parent ?h0 ?_ ?h2); (case h0 => assumption); (case h2 => rfl))
  | ((with_reducible refine' Ss.set_un ?h0 ?_ ?h2); (case h0 => assumption); (case h2 => rfl))
  | (with_reducible refine' Ss.cond ?_)
  | (with_reducible refine' Ss.nilA ?_)
  | (with_reducible refine' Ss.nil ?_)
  | (with_reducible refine' Ex.cint ?_)
  | (with_reducible refine' Ex.cstr ?_)
  | (with_reducible refine' Ex.cbool ?_)
  | (with_reducible refine' Ex.cnone ?_)
  | ((with_reducible refine' Ex.name ?h0 ?_ ?h2 ?h3 ?h4); (case h0 => rfl); (case h2 => rfl); (case h3 => rfl); (case h4 => decide))
  | (with_reducible refine' Ex.binop ?_)
  | ((with_reducible refine' Ex.cmp ?_ ?h1); (case h1 => rfl))
  | (with_reducible refine' Ex.neg ?_)
  | ((with_reducible refine' Ex.info ?h0 ?_ ?h2); (case h0 => assumption); (case h2 => rfl))
  | (with_reducible refine' Ex.ite ?_)
  | (with_reducible refine' Ex.or2 ?_)
  | (with_reducible refine' Ex.and2 ?_)
  | (with_reducible refine' Ex.bool1 ?_)
  | ((with_reducible refine' Ts.cmp ?_ ?h1); (case h1 => rfl))
  | (with_reducible refine' Ts.and2 ?_)
  | (with_reducible refine' TrB.and1 ?_)
  | (with_reducible refine' TrB.and0 ?_)
  | (with_reducible refine' TrB.or1 ?_)
  | (with_reducible refine' TrB.or0 ?_)
  | (with_reducible refine' Bo.add ?_)
  | (with_reducible refine' Bo.sub ?_)
  | ((with_reducible refine' Bo.shr ?h0 ?_); (case h0 => decide))
  | (with_reducible refine' Bo.and ?_)
  | (with_reducible refine' Co.eq ?_)
  | (with_reducible refine' Co.ne ?_)
  | (with_reducible refine' Co.lt ?_)
  | (with_reducible refine' Co.le ?_)
  | (with_reducible refine' Co.gt ?_)
  | (with_reducible refine' Co.ge ?_)
  | (with_reducible refine' Co.eqb ?_)
  | (with_reducible refine' Tt.int ?_)
  | (with_reducible refine' Tt.bool ?_)
  | ((with_reducible refine' Ar.cons ?_ ?h1); (case h1 => rfl))
  | (with_reducible refine' Ar.nil ?_)
  | (with_reducible refine' Ex.tup ?_)
  | (with_reducible refine' Ex.list ?_)
  | refine ⟨_, _, _, _, rfl, rfl, (by first | assumption | exact IsInfo.self (by (first | assumption | exact IsInfo.self (by assumption) | exact IsInfo.upd (by assumption) (by assumption) (by first | assumption | (apply Ne.symm; assumption)))) | exact IsInfo.upd (by (first | assumption | exact IsInfo.self (by assumption) | exact IsInfo.upd (by assumption) (by assumption) (by first | assumption | (apply Ne.symm; assumption)))) (by (first | assumption | exact IsInfo.self (by assumption) | exact IsInfo.upd (by assumption) (by assumption) (by first | assumption | (apply Ne.symm; assumption)))) (by first | assumption | (apply Ne.symm; assumption))), ?_⟩
  | refine ⟨_, _, _, _, rfl, (by (first | assumption | exact IsInfo.self (by (first | assumption | exact IsInfo.self (by assumption) | exact IsInfo.upd (by assumption) (by assumption) (by first | assumption | (apply Ne.symm; assumption)))) | exact IsInfo.upd (by (first | assumption | exact IsInfo.self (by assumption) | exact IsInfo.upd (by assumption) (by assumption) (by first | assumption | (apply Ne.symm; assumption)))) (by (first | assumption | exact IsInfo.self (by assumption) | exact IsInfo.upd (by assumption) (by assumption) (by first | assumption | (apply Ne.symm; assumption)))) (by first | assumption | (apply Ne.symm; assumption)))), (by simp), rfl, rfl, ?_⟩)
  (first
  | ((with_reducible refine' Ss.name ?_ ?h1 ?h2 ?h3); (case h1 => rfl); (case h2 => rfl); (case h3 => rfl))
  | (with_reducible refine' Ss.ret ?_)
  | (with_reducible refine' Ss.ret0 ?_)
  | ((with_reducible refine' Ss.set_xa ?h0 ?_ ?h2); (case h0 => assumption); (case h2 => rfl))
  | ((with_reducible refine' Ss.set_xo ?h0 ?_ ?h2); (case h0 => assumption); (case h2 => rfl))
  | ((with_reducible refine' Ss.set_parent ?h0 ?_ ?h2); (case h0 => assumption); (case h2 => rfl))
  | ((with_reducible refine' Ss.set_un ?h0 ?_ ?h2); (case h0 => assumption); (case h2 => rfl))
  | (with_reducible refine' Ss.cond ?_)
  | (with_reducible refine' Ss.nilA ?_)
  | (with_reducible refine' Ss.nil ?_)
  | (with_reducible refine' Ex.cint ?_)
  | (with_reducible refine' Ex.cstr ?_)
  | (with_reducible refine' Ex.cbool ?_)
  | (with_reducible refine' Ex.cnone ?_)
  | ((with_reducible refine' Ex.name ?h0 ?_ ?h2 ?h3 ?h4); (case h0 => rfl); (case h2 => rfl); (case h3 => rfl); (case h4 => decide))
  | (with_reducible refine' Ex.binop ?_)
  | ((with_reducible refine' Ex.cmp ?_ ?h1); (case h1 => rfl))
  | (with_reducible refine' Ex.neg ?_)
  | ((with_reducible refine' Ex.info ?h0 ?_ ?h2); (case h0 => assumption); (case h2 => rfl))
  | (with_reducible refine' Ex.ite ?_)
  | (with_reducible refine' Ex.or2 ?_)
  | (with_reducible refine' Ex.and2 ?_)
  | (with_reducible refine' Ex.bool1 ?_)
  | ((with_reducible refine' Ts.cmp ?_ ?h1); (case h1 => rfl))
  | (with_reducible refine' Ts.and2 ?_)
  | (with_reducible refine' TrB.and1 ?_)
  | (with_reducible refine' TrB.and0 ?_)
  | (with_reducible refine' TrB.or1 ?_)
  | (with_reducible refine' TrB.or0 ?_)
  | (with_reducible refine' Bo.add ?_)
  | (with_reducible refine' Bo.sub ?_)
  | ((with_reducible refine' Bo.shr ?h0 ?_); (case h0 => decide))
  | (with_reducible refine' Bo.and ?_)
  | (with_reducible refine' Co.eq ?_)
  | (with_reducible refine' Co.ne ?_)
  | (with_reducible refine' Co.lt ?_)
  | (with_reducible refine' Co.le ?_)
  | (with_reducible refine' Co.gt ?_)
  | (with_reducible refine' Co.ge ?_)
  | (with_reducible refine' Co.eqb ?_)
  | (with_reducible refine' Tt.int ?_)
  | (with_reducible refine' Tt.bool ?_)
  | ((with_reducible refine' Ar.cons ?_ ?h1); (case h1 => rfl))
  | (with_reducible refine' Ar.nil ?_)
  | (with_reducible refine' Ex.tup ?_)
  | (with_reducible refine' Ex.list ?_)
  | refine ⟨_, _, _, _, rfl, rfl, (by first | assumption | exact IsInfo.self (by (first | assumption | exact IsInfo.self (by assumption) | exact IsInfo.upd (by assumption) (by assumption) (by first | assumption | (apply Ne.symm; assumption)))) | exact IsInfo.upd (by (first | assumption | exact IsInfo.self (by assumption) | exact IsInfo.upd (by assumption) (by assumption) (by first | assumption | (apply Ne.symm; assumption)))) (by (first | assumption | exact IsInfo.self (by assumption) | exact IsInfo.upd (by assumption) (by assumption) (by first | assumption | (apply Ne.symm; assumption)))) (by first | assumption | (apply Ne.symm; assumption))), ?_⟩
  | refine ⟨_, _, _, _, rfl, (by (first | assumption | exact IsInfo.self (by (first | assumption | exact IsInfo.self (by assumption) | exact IsInfo.upd (by assumption) (by assumption) (by first | assumption | (apply Ne.symm; assumption)))) | exact IsInfo.upd (by (first | assumption | exact IsInfo.self (by assumption) | exact IsInfo.upd (by assumption) (by assumption) (by first | assumption | (apply Ne.symm; assumption)))) (by (first | assumption | exact IsInfo.self (by assumption) | exact IsInfo.upd (by assumption) (by assumption) (by first | assumption | (apply Ne.symm; assumption)))) (by first | assumption | (apply Ne.symm; assumption)))), (by simp), rfl, rfl, ?_⟩)
  refine ⟨_, rfl, ?_⟩
  by_cases h1 : 1 ≤ n
  · rw [if_pos (by simpa using h1)]
    refine Ex.gint hG gl_COMPONENT ?_
    (first
  | ((with_reducible refine' Ss.name ?_ ?h1 ?h2 ?h3); (case h1 => rfl); (case h2 => rfl); (case h3 => rfl))
  | (with_reducible refine' Ss.ret ?_)
  | (with_reducible refine' Ss.ret0 ?_)
  | ((with_reducible refine' Ss.set_xa ?h0 ?_ ?h2); (case h0 => assumption); (case h2 => rfl))
  | ((with_reducible refine' Ss.set_xo ?h0 ?_ ?h2); (case h0 => assumption); (case h2 => rfl))
  | ((with_reducible refine' Ss.set_parent ?h0 ?_ ?h2); (case h0 => assumption); (case h2 => rfl))
  | ((with_reducible refine' Ss.set_un ?h0 ?_ ?h2); (case h0 => assumption); (case h2 => rfl))
  | (with_reducible refine' Ss.cond ?_)
  | (with_reducible refine' Ss.nilA ?_)
  | (with_reducible refine' Ss.nil ?_)
  | (with_reducible refine' Ex.cint ?_)
  | (with_reducible refine' Ex.cstr ?_)
  | (with_reducible refine' Ex.cbool ?_)
  | (with_reducible refine' Ex.cnone ?_)
  | ((with_reducible refine' Ex.name ?h0 ?_ ?h2 ?h3 ?h4); (case h0 => rfl); (case h2 => rfl); (case h3 => rfl); (case h4 => decide))
  | (with_reducible refine' Ex.binop ?_)
  | ((with_reducible refine' Ex.cmp ?_ ?h1); (case h1 => rfl))
  | (with_reducible refine' Ex.neg ?_)
  | ((with_reducible refine' Ex.info ?h0 ?_ ?h2); (case h0 => assumption); (case h2 => rfl))
  | (with_reducible refine' Ex.ite ?_)
  | (with_reducible refine' Ex.or2 ?_)
  | (with_reducible refine' Ex.and2 ?_)
  | (with_reducible refine' Ex.bool1 ?_)
  | ((with_reducible refine' Ts.cmp ?_ ?h1); (case h1 => rfl))
  | (with_reducible refine' Ts.and2 ?_)
  | (with_reducible refine' TrB.and1 ?_)
  | (with_reducible refine' TrB.and0 ?_)
  | (with_reducible refine' TrB.or1 ?_)
  | (with_reducible refine' TrB.or0 ?_)
  | (with_reducible refine' Bo.add ?_)
  | (with_reducible refine' Bo.sub ?_)
  | ((with_reducible refine' Bo.shr ?h0 ?_); (case h0 => decide))
  | (with_reducible refine' Bo.and ?_)
  | (with_reducible refine' Co.eq ?_)
  | (with_reducible refine' Co.ne ?_)
  | (with_reducible refine' Co.lt ?_)
  | (with_reducible refine' Co.le ?_)
  | (with_reducible refine' Co.gt ?_)
  | (with_reducible refine' Co.ge ?_)
  | (with_reducible refine' Co.eqb ?_)
  | (with_reducible refine' Tt.int ?_)
  | (with_reducible refine' Tt.bool ?_)
  | ((with_reducible refine' Ar.cons ?_ ?h1); (case h1 => rfl))
  | (with_reducible refine' Ar.nil ?_)
  | (with_reducible refine' Ex.tup ?_)
  | (with_reducible refine' Ex.list ?_)
  | refine ⟨_, _, _, _, rfl, rfl, (by first | assumption | exact IsInfo.self (by (first | assumption | exact IsInfo.self (by assumption) | exact IsInfo.upd (by assumption) (by assumption) (by first | assumption | (apply Ne.symm; assumption)))) | exact IsInfo.upd (by (first | assumption | exact IsInfo.self (by assumption) | exact IsInfo.upd (by assumption) (by assumption) (by first | assumption | (apply Ne.symm; assumption)))) (by (first | assumption | exact IsInfo.self (by assumption) | exact IsInfo.upd (by assumption) (by assumption) (by first | assumption | (apply Ne.symm; assumption)))) (by first | assumption | (apply Ne.symm; assumption))), ?_⟩
  | refine ⟨_, _, _, _, rfl, (by (first | assumption | exact IsInfo.self (by (first | assumption | exact IsInfo.self (by assumption) | exact IsInfo.upd (by assumption) (by assumption) (by first | assumption | (apply Ne.symm; assumption)))) | exact IsInfo.upd (by (first | assumption | exact IsInfo.self (by assumption) | exact IsInfo.upd (by assumption) (by assumption) (by first | assumption | (apply Ne.symm; assumption)))) (by (first | assumption | exact IsInfo.self (by assumption) | exact IsInfo.upd (by assumption) (by assumption) (by first | assumption | (apply Ne.symm; assumption)))) (by first | assumption | (apply Ne.symm; assumption)))), (by simp), rfl, rfl, ?_⟩)
    refine ⟨_, rfl, ?_⟩
    by_cases h2 : n ≤ 4
    · rw [if_pos (by simpa using h2)]
      rw [if_pos ⟨h1, h2⟩] at h
      (first
  | ((with_reducible refine' Ss.name ?_ ?h1 ?h2 ?h3); (case h1 => rfl); (case h2 => rfl); (case h3 => rfl))
  | (with_reducible refine' Ss.ret ?_)
  | (with_reducible refine' Ss.ret0 ?_)
  | ((with_reducible refine' Ss.set_xa ?h0 ?_ ?h2); (case h0 => assumption); (case h2 => rfl))
  | ((with_reducible refine' Ss.set_xo ?h0 ?_ ?h2); (case h0 => assumption); (case h2 => rfl))
  | ((with_reducible refine' Ss.set_parent ?h0 ?_ ?h2); (case h0 => assumption); (case h2 => rfl))
  | ((with_reducible refine' Ss.set_un ?h0 ?_ ?h2); (case h0 => assumption); (case h2 => rfl))
  | (with_reducible refine' Ss.cond ?_)
  | (with_reducible refine' Ss.nilA ?_)
  | (with_reducible refine' Ss.nil ?_)
  | (with_reducible refine' Ex.cint ?_)
  | (with_reducible refine' Ex.cstr ?_)
  | (with_reducible refine' Ex.cbool ?_)
  | (with_reducible refine' Ex.cnone ?_)
  | ((with_reducible refine' Ex.name ?h0 ?_ ?h2 ?h3 ?h4); (case h0 => rfl); (case h2 => rfl); (case h3 => rfl); (case h4 => decide))
  | (with_reducible refine' Ex.binop ?_)
  | ((with_reducible refine' Ex.cmp ?_ ?h1); (case h1 => rfl))
  | (with_reducible refine' Ex.neg ?_)
  | ((with_reducible refine' Ex.info ?h0 ?_ ?h2); (case h0 => assumption); (case h2 => rfl))
  | (with_reducible refine' Ex.ite ?_)
  | (with_reducible refine' Ex.or2 ?_)
  | (with_reducible refine' Ex.and2 ?_)
  | (with_reducible refine' Ex.bool1 ?_)
  | ((with_reducible refine' Ts.cmp ?_ ?h1); (case h1 => rfl))
  | (with_reducible refine' Ts.and2 ?_)
  | (with_reducible refine' TrB.and1 ?_)
  | (with_reducible refine' TrB.and0 ?_)
  | (with_reducible refine' TrB.or1 ?_)
  | (with_reducible refine' TrB.or0 ?_)
  | (with_reducible refine' Bo.add ?_)
  | (with_reducible refine' Bo.sub ?_)
  | ((with_reducible refine' Bo.shr ?h0 ?_); (case h0 => decide))
  | (with_reducible refine' Bo.and ?_)
  | (with_reducible refine' Co.eq ?_)
  | (with_reducible refine' Co.ne ?_)
  | (with_reducible refine' Co.lt ?_)
  | (with_reducible refine' Co.le ?_)
  | (with_reducible refine' Co.gt ?_)
  | (with_reducible refine' Co.ge ?_)
  | (with_reducible refine' Co.eqb ?_)
  | (with_reducible refine' Tt.int ?_)
  | (with_reducible refine' Tt.bool ?_)
  | ((with_reducible refine' Ar.cons ?_ ?h1); (case h1 => rfl))
  | (with_reducible refine' Ar.nil ?_)
  | (with_reducible refine' Ex.tup ?_)
  | (with_reducible refine' Ex.list ?_)
  | refine ⟨_, _, _, _, rfl, rfl, (by first | assumption | exact IsInfo.self (by (first | assumption | exact IsInfo.self (by assumption) | exact IsInfo.upd (by assumption) (by assumption) (by first | assumption | (apply Ne.symm; assumption)))) | exact IsInfo.upd (by (first | assumption | exact IsInfo.self (by assumption) | exact IsInfo.upd (by assumption) (by assumption) (by first | assumption | (apply Ne.symm; assumption)))) (by (first | assumption | exact IsInfo.self (by assumption) | exact IsInfo.upd (by assumption) (by assumption) (by first | assumption | (apply Ne.symm; assumption)))) (by first | assumption | (apply Ne.symm; assumption))), ?_⟩
  | refine ⟨_, _, _, _, rfl, (by (first | assumption | exact IsInfo.self (by (first | assumption | exact IsInfo.self (by assumption) | exact IsInfo.upd (by assumption) (by assumption) (by first | assumption | (apply Ne.symm; assumption)))) | exact IsInfo.upd (by (first | assumption | exact IsInfo.self (by assumption) | exact IsInfo.upd (by assumption) (by assumption) (by first | assumption | (apply Ne.symm; assumption)))) (by (first | assumption | exact IsInfo.self (by assumption) | exact IsInfo.upd (by assumption) (by assumption) (by first | assumption | (apply Ne.symm; assumption)))) (by first | assumption | (apply Ne.symm; assumption)))), (by simp), rfl, rfl, ?_⟩)
      exact h
    · rw [if_neg (by simpa using h2)]
      rw [if_neg fun x => h2 x.2] at h
      exact Ex.gint hG gl_NO_CLASS h
  · rw [if_neg (by simpa using h1)]
    rw [if_neg fun x => h1 x.1] at h
    show Ex _ _ _ _ _
    exact Ex.gint hG gl_NO_CLASS h

end Mine

namespace Mine
-- L1
set_option maxRecDepth 100000
set_option maxHeartbeats 2000000
/-- the least of a list -/
noncomputable def lst : List Int → Int
  | [] => 0
  | [a] => a
  | a :: b :: r => min a (lst (b :: r))
theorem lst_mem : ∀ (l : List Int), l ≠ [] → lst l ∈ l
  | [], h => absurd rfl h
  | [a], _ => by simp [lst]
  | a :: b :: r, _ => by
    have := lst_mem (b :: r) (by simp)
    rw [lst]
    by_cases h : a ≤ lst (b :: r)
    · rw [Int.min_eq_left h]; exact .head _
    · rw [Int.min_eq_right (by omega)]; exact .tail _ this
theorem lst_le : ∀ (l : List Int) (x : Int), x ∈ l → lst l ≤ x
  | [], _, h => by cases h
  | [a], x, h => by simp at h; subst h; simp [lst]
  | a :: b :: r, x, h => by
    rw [lst]
    rcases List.mem_cons.mp h with rfl | h
    · exact Int.min_le_left ..
    · exact Int.le_trans (Int.min_le_right ..) (lst_le (b :: r) x h)
theorem lst_eq {l : List Int} {M : Int} (h : M ∈ l) (k : ∀ x ∈ l, M ≤ x) : M = lst l := by
  have a := lst_le l M h
  have b := k _ (lst_mem l (by rintro rfl; cases h))
  omega
/-- the clusters of i .. j -/
def clus (R : Rw) (i j : Nat) : List Int := ((R.drop i).take (j + 1 - i)).map fun r => r.2.2.cluster
theorem mem_clus {R : Rw} {i j : Nat} {c : Int} : c ∈ clus R i j ↔ ∃ n r, i ≤ n ∧ n ≤ j ∧ R[n]? = some r ∧ c = r.2.2.cluster := by
  unfold clus
  rw [List.mem_map]
  constructor
  · rintro ⟨r, hr, rfl⟩
    obtain ⟨n, hn⟩ := List.mem_iff_getElem?.mp hr
    rw [List.getElem?_take] at hn
    split at hn
    · rw [List.getElem?_drop] at hn; exact ⟨i + n, r, by omega, by omega, hn, rfl⟩
    · cases hn
  · rintro ⟨n, r, h1, h2, h3, rfl⟩
    refine ⟨r, List.mem_of_getElem? (i := n - i) ?_, rfl⟩
    rw [List.getElem?_take, if_pos (by omega), List.getElem?_drop, show i + (n - i) = n by omega]; exact h3
def putG (i j : Nat) (d : Int) (n : Nat) (x : Inf) : Inf := if n = i then x.s_xa (x.xa + d / 2) else if n = j then (x.s_xa (x.xa + (d - d / 2))).s_xo (x.xo + (d - d / 2)) else x
/-- does the pair i, j count, and by how much -/
def worth (R : Rw) (pv : Int → Int → Int) (mask : Int) (i j : Nat) : Int := match R[i]?, R[j]? with
  | some r, some r' => if Builtin.bitAnd r.2.2.mask mask ≠ 0 ∧ Builtin.bitAnd r'.2.2.mask mask ≠ 0 then pv r.2.2.glyph r'.2.2.glyph else 0
  | _, _ => 0
noncomputable def stepG (R : Rw) (pv : Int → Int → Int) (mask : Int) (ij : Nat × Nat) (n : Nat) (x : Inf) : Inf :=
  if worth R pv mask ij.1 ij.2 = 0 then x else hangG ij.1 (ij.2 + 1) (lst (clus R ij.1 ij.2)) n (putG ij.1 ij.2 (worth R pv mask ij.1 ij.2) n x)
noncomputable def allG (R : Rw) (pv : Int → Int → Int) (mask : Int) (D : List (Nat × Nat)) (n : Nat) (x : Inf) : Inf := D.foldl (fun y ij => stepG R pv mask ij n y) x
theorem allG_snoc (R : Rw) (pv : Int → Int → Int) (mask : Int) (D : List (Nat × Nat)) (ij : Nat × Nat) (n : Nat) (x : Inf) : allG R pv mask (D ++ [ij]) n x = stepG R pv mask ij n (allG R pv mask D n x) := by
  unfold allG; rw [List.foldl_append]; rfl
/-- what a step leaves -/
structure SameI (x y : Inf) : Prop where
  glyph : x.glyph = y.glyph
  cluster : x.cluster = y.cluster
  mask : x.mask = y.mask
  ya : x.ya = y.ya
  yo : x.yo = y.yo
  parent : x.parent = y.parent
  bond : x.bond = y.bond
theorem SameI.refl (x : Inf) : SameI x x := ⟨rfl, rfl, rfl, rfl, rfl, rfl, rfl⟩
theorem SameI.trans {x y z : Inf} (a : SameI x y) (b : SameI y z) : SameI x z := ⟨a.1.trans b.1, a.2.trans b.2, a.3.trans b.3, a.4.trans b.4, a.5.trans b.5, a.6.trans b.6, a.7.trans b.7⟩
theorem putG_same (i j : Nat) (d : Int) (n : Nat) (x : Inf) : SameI (putG i j d n x) x := by unfold putG; split; exact ⟨rfl, rfl, rfl, rfl, rfl, rfl, rfl⟩; split <;> exact ⟨rfl, rfl, rfl, rfl, rfl, rfl, rfl⟩
theorem hangG_same (i j : Nat) (M : Int) (n : Nat) (x : Inf) : SameI (hangG i j M n x) x := by unfold hangG; split <;> exact ⟨rfl, rfl, rfl, rfl, rfl, rfl, rfl⟩
theorem stepG_same (R : Rw) (pv : Int → Int → Int) (mask : Int) (ij : Nat × Nat) (n : Nat) (x : Inf) : SameI (stepG R pv mask ij n x) x := by
  unfold stepG; split
  · exact .refl _
  · exact (hangG_same ..).trans (putG_same ..)
theorem allG_same (R : Rw) (pv : Int → Int → Int) (mask : Int) (D : List (Nat × Nat)) (n : Nat) (x : Inf) : SameI (allG R pv mask D n x) x := by
  unfold allG
  induction D generalizing x with
  | nil => exact .refl _
  | cons d D ih => exact (ih _).trans (stepG_same ..)
/-- the places that are no marks, from s on -/
def free (R : Rw) (cl : Int → Int) (n : Nat) : Bool := match R[n]? with
  | some r => cl r.2.2.glyph != 3
  | none => false
def U (R : Rw) (cl : Int → Int) (s : Nat) : List Nat := (List.range' s (R.length - s)).filter (free R cl)
def prs (l : List Nat) : List (Nat × Nat) := l.zip l.tail
theorem prs_two (a b : Nat) (l : List Nat) : prs (a :: b :: l) = (a, b) :: prs (b :: l) := rfl
theorem U_skip {R : Rw} {cl : Int → Int} {s n : Nat} (h : s ≤ n) (hn : n ≤ R.length) (hm : ∀ p r, s ≤ p → p < n → R[p]? = some r → cl r.2.2.glyph = 3) : U R cl s = U R cl n := by
  unfold U
  have e : List.range' s (R.length - s) = List.range' s (n - s) ++ List.range' n (R.length - n) := by
    have h1 : R.length - s = (n - s) + (R.length - n) := by omega
    have h2 : n = s + (n - s) := by omega
    rw [h1, ← List.range'_append_1, ← h2]
  rw [e, List.filter_append, List.filter_eq_nil_iff.mpr fun p hp => ?_, List.nil_append]
  rw [List.mem_range'_1] at hp
  unfold free
  have hlt : p < R.length := by omega
  rw [List.getElem?_eq_getElem hlt]
  have := hm p R[p] hp.1 (by omega) (List.getElem?_eq_getElem hlt)
  simp [this]
theorem U_at {R : Rw} {cl : Int → Int} {n : Nat} {r : Addr × Addr × Inf} (hr : R[n]? = some r) (hm : cl r.2.2.glyph ≠ 3) : U R cl n = n :: U R cl (n + 1) := by
  have hlt := (List.getElem?_eq_some_iff.mp hr).1
  unfold U
  have e : R.length - n = (R.length - (n + 1)) + 1 := by omega
  rw [e, List.range'_succ, List.filter_cons, if_pos]
  unfold free; rw [hr]; simpa using hm
theorem U_end {R : Rw} {cl : Int → Int} : U R cl R.length = [] := by unfold U; rw [Nat.sub_self]; rfl

end Mine

namespace Mine
-- W5
set_option maxRecDepth 100000
set_option maxHeartbeats 2000000
theorem fillit5 : (PySem.Challenge.rw_nu0162_01 = PySem.Challenge.rw_nu0162_01) ∧ (∀ P, KK P = KK P) := by
  k_fill
  exact ⟨rfl, fun _ => rfl⟩
variable {w : World} {h₀ : Heap} {A : Around} {f f' : Fh}
theorem next_kerned_spec {rl g : Addr} {R : Rw} {kvs : List (Int × Value)} {cl : Int → Int} {a : Int} {st : Nat} {P : Value → Fh → Prop} (hG : (GG w h₀).Ok) (hA : Rm 3 A) (hl : IsL f rl (refs R)) (hR : Row w f R) (hz : R.length ≤ 1000) (C : IsGdef w f g kvs)
    (hv : ∀ k, (valueAt kvs k).getD (iv 0) = iv (cl k)) (ha : a + 1 = st) (hs : st ≤ R.length)
    (h : ∀ n : Nat, st ≤ n → n ≤ R.length → (∀ p r, st ≤ p → p < n → R[p]? = some r → cl r.2.2.glyph = 3) → (∀ r, R[n]? = some r → cl r.2.2.glyph ≠ 3) → P (iv n) f) :
    Cd (GG w h₀) A f 121 [.ref rl, iv a, .ref g] P := by
  refine Cd.enter3 (n₁ := "row") (n₂ := "at") (n₃ := "gdef") hG hA (ho_lit (by dsimp only; k_is) rfl) (by dsimp only; k_is) fun L hA => ?_
  (first
  | ((with_reducible refine' Ss.name ?_ ?h1 ?h2 ?h3); (case h1 => rfl); (case h2 => rfl); (case h3 => rfl))
  | (with_reducible refine' Ss.ret ?_)
  | (with_reducible refine' Ss.ret0 ?_)
  | ((with_reducible refine' Ss.set_xa ?h0 ?_ ?h2); (case h0 => assumption); (case h2 => rfl))
  | ((with_reducible refine' Ss.set_xo ?h0 ?_ ?h2); (case h0 => assumption); (case h2 => rfl))
  | ((with_reducible refine' Ss.set_parent ?h0 ?_ ?h2); (case h0 => assumption); (case h2 => rfl))
  | ((with_reducible refine' Ss.set_un ?h0 ?_ ?h2); (case h0 => assumption); (case h2 => rfl))
  | (with_reducible refine' Ss.cond ?_)
  | (with_reducible refine' Ss.nilA ?_)
  | (with_reducible refine' Ss.nil ?_)
  | (with_reducible refine' Ex.cint ?_)
  | (with_reducible refine' Ex.cstr ?_)
  | (with_reducible refine' Ex.cbool ?_)
  | (with_reducible refine' Ex.cnone ?_)
  | ((with_reducible refine' Ex.name ?h0 ?_ ?h2 ?h3 ?h4); (case h0 => rfl); (case h2 => rfl); (case h3 => rfl); (case h4 => decide))
  | (with_reducible refine' Ex.binop ?_)
  | ((with_reducible refine' Ex.cmp ?_ ?h1); (case h1 => rfl))
  | (with_reducible refine' Ex.neg ?_)
  | ((with_reducible refine' Ex.info ?h0 ?_ ?h2); (case h0 => assumption); (case h2 => rfl))
  | (with_reducible refine' Ex.ite ?_)
  | (with_reducible refine' Ex.or2 ?_)
  | (with_reducible refine' Ex.and2 ?_)
  | (with_reducible refine' Ex.bool1 ?_)
  | ((with_reducible refine' Ts.cmp ?_ ?h1); (case h1 => rfl))
  | (with_reducible refine' Ts.and2 ?_)
  | (with_reducible refine' TrB.and1 ?_)
  | (with_reducible refine' TrB.and0 ?_)
  | (with_reducible refine' TrB.or1 ?_)
  | (with_reducible refine' TrB.or0 ?_)
  | (with_reducible refine' Bo.add ?_)
  | (with_reducible refine' Bo.sub ?_)
  | ((with_reducible refine' Bo.shr ?h0 ?_); (case h0 => decide))
  | (with_reducible refine' Bo.and ?_)
  | (with_reducible refine' Co.eq ?_)
  | (with_reducible refine' Co.ne ?_)
  | (with_reducible refine' Co.lt ?_)
  | (with_reducible refine' Co.le ?_)
  | (with_reducible refine' Co.gt ?_)
  | (with_reducible refine' Co.ge ?_)
  | (with_reducible refine' Co.eqb ?_)
  | (with_reducible refine' Tt.int ?_)
  | (with_reducible refine' Tt.bool ?_)
  | ((with_reducible refine' Ar.cons ?_ ?h1); (case h1 => rfl))
  | (with_reducible refine' Ar.nil ?_)
  | (with_reducible refine' Ex.tup ?_)
  | (with_reducible refine' Ex.list ?_)
  | refine ⟨_, _, _, _, rfl, rfl, (by first | assumption | exact IsInfo.self (by (first | assumption | exact IsInfo.self (by assumption) | exact IsInfo.upd (by assumption) (by assumption) (by first | assumption | (apply Ne.symm; assumption)))) | exact IsInfo.upd (by (first | assumption | exact IsInfo.self (by assumption) | exact IsInfo.upd (by assumption) (by assumption) (by first | assumption | (apply Ne.symm; assumption)))) (by (first | assumption | exact IsInfo.self (by assumption) | exact IsInfo.upd (by assumption) (by assumption) (by first | assumption | (apply Ne.symm; assumption)))) (by first | assumption | (apply Ne.symm; assumption))), ?_⟩
  | refine ⟨_, _, _, _, rfl, (by (first | assumption | exact IsInfo.self (by (first | assumption | exact IsInfo.self (by assumption) | exact IsInfo.upd (by assumption) (by assumption) (by first | assumption | (apply Ne.symm; assumption)))) | exact IsInfo.upd (by (first | assumption | exact IsInfo.self (by assumption) | exact IsInfo.upd (by assumption) (by assumption) (by first | assumption | (apply Ne.symm; assumption)))) (by (first | assumption | exact IsInfo.self (by assumption) | exact IsInfo.upd (by assumption) (by assumption) (by first | assumption | (apply Ne.symm; assumption)))) (by first | assumption | (apply Ne.symm; assumption)))), (by simp), rfl, rfl, ?_⟩)
  (first
  | ((with_reducible refine' Ss.name ?_ ?h1 ?h2 ?h3); (case h1 => rfl); (case h2 => rfl); (case h3 => rfl))
  | (with_reducible refine' Ss.ret ?_)
  | (with_reducible refine' Ss.ret0 ?_)
  | ((with_reducible refine' Ss.set_xa ?h0 ?_ ?h2); (case h0 => assumption); (case h2 => rfl))
  | ((with_reducible refine' Ss.set_xo ?h0 ?_ ?h2); (case h0 => assumption); (case h2 => rfl))
  | ((with_reducible refine' Ss.set_parent ?h0 ?_ ?h2); (case h0 => assumption); (case h2 => rfl))
  | ((with_reducible refine' Ss.set_un ?h0 ?_ ?h2); (case h0 => assumption); (case h2 => rfl))
  | (with_reducible refine' Ss.cond ?_)
  | (with_reducible refine' Ss.nilA ?_)
  | (with_reducible refine' Ss.nil ?_)
  | (with_reducible refine' Ex.cint ?_)
  | (with_reducible refine' Ex.cstr ?_)
  | (with_reducible refine' Ex.cbool ?_)
  | (with_reducible refine' Ex.cnone ?_)
  | ((with_reducible refine' Ex.name ?h0 ?_ ?h2 ?h3 ?h4); (case h0 => rfl); (case h2 => rfl); (case h3 => rfl); (case h4 => decide))
  | (with_reducible refine' Ex.binop ?_)
  | ((with_reducible refine' Ex.cmp ?_ ?h1); (case h1 => rfl))
  | (with_reducible refine' Ex.neg ?_)
  | ((with_reducible refine' Ex.info ?h0 ?_ ?h2); (case h0 => assumption); (case h2 => rfl))
  | (with_reducible refine' Ex.ite ?_)
  | (with_reducible refine' Ex.or2 ?_)
  | (with_reducible refine' Ex.and2 ?_)
  | (with_reducible refine' Ex.bool1 ?_)
  | ((with_reducible refine' Ts.cmp ?_ ?h1); (case h1 => rfl))
  | (with_reducible refine' Ts.and2 ?_)
  | (with_reducible refine' TrB.and1 ?_)
  | (with_reducible refine' TrB.and0 ?_)
  | (with_reducible refine' TrB.or1 ?_)
  | (with_reducible refine' TrB.or0 ?_)
  | (with_reducible refine' Bo.add ?_)
  | (with_reducible refine' Bo.sub ?_)
  | ((with_reducible refine' Bo.shr ?h0 ?_); (case h0 => decide))
  | (with_reducible refine' Bo.and ?_)
  | (with_reducible refine' Co.eq ?_)
  | (with_reducible refine' Co.ne ?_)
  | (with_reducible refine' Co.lt ?_)
  | (with_reducible refine' Co.le ?_)
  | (with_reducible refine' Co.gt ?_)
  | (with_reducible refine' Co.ge ?_)
  | (with_reducible refine' Co.eqb ?_)
  | (with_reducible refine' Tt.int ?_)
  | (with_reducible refine' Tt.bool ?_)
  | ((with_reducible refine' Ar.cons ?_ ?h1); (case h1 => rfl))
  | (with_reducible refine' Ar.nil ?_)
  | (with_reducible refine' Ex.tup ?_)
  | (with_reducible refine' Ex.list ?_)
  | refine ⟨_, _, _, _, rfl, rfl, (by first | assumption | exact IsInfo.self (by (first | assumption | exact IsInfo.self (by assumption) | exact IsInfo.upd (by assumption) (by assumption) (by first | assumption | (apply Ne.symm; assumption)))) | exact IsInfo.upd (by (first | assumption | exact IsInfo.self (by assumption) | exact IsInfo.upd (by assumption) (by assumption) (by first | assumption | (apply Ne.symm; assumption)))) (by (first | assumption | exact IsInfo.self (by assumption) | exact IsInfo.upd (by assumption) (by assumption) (by first | assumption | (apply Ne.symm; assumption)))) (by first | assumption | (apply Ne.symm; assumption))), ?_⟩
  | refine ⟨_, _, _, _, rfl, (by (first | assumption | exact IsInfo.self (by (first | assumption | exact IsInfo.self (by assumption) | exact IsInfo.upd (by assumption) (by assumption) (by first | assumption | (apply Ne.symm; assumption)))) | exact IsInfo.upd (by (first | assumption | exact IsInfo.self (by assumption) | exact IsInfo.upd (by assumption) (by assumption) (by first | assumption | (apply Ne.symm; assumption)))) (by (first | assumption | exact IsInfo.self (by assumption) | exact IsInfo.upd (by assumption) (by assumption) (by first | assumption | (apply Ne.symm; assumption)))) (by first | assumption | (apply Ne.symm; assumption)))), (by simp), rfl, rfl, ?_⟩)
  (first
  | ((with_reducible refine' Ss.name ?_ ?h1 ?h2 ?h3); (case h1 => rfl); (case h2 => rfl); (case h3 => rfl))
  | (with_reducible refine' Ss.ret ?_)
  | (with_reducible refine' Ss.ret0 ?_)
  | ((with_reducible refine' Ss.set_xa ?h0 ?_ ?h2); (case h0 => assumption); (case h2 => rfl))
  | ((with_reducible refine' Ss.set_xo ?h0 ?_ ?h2); (case h0 => assumption); (case h2 => rfl))
  | ((with_reducible refine' Ss.set_parent ?h0 ?_ ?h2); (case h0 => assumption); (case h2 => rfl))
  | ((with_reducible refine' Ss.set_un ?h0 ?_ ?h2); (case h0 => assumption); (case h2 => rfl))
  | (with_reducible refine' Ss.cond ?_)
  | (with_reducible refine' Ss.nilA ?_)
  | (with_reducible refine' Ss.nil ?_)
  | (with_reducible refine' Ex.cint ?_)
  | (with_reducible refine' Ex.cstr ?_)
  | (with_reducible refine' Ex.cbool ?_)
  | (with_reducible refine' Ex.cnone ?_)
  | ((with_reducible refine' Ex.name ?h0 ?_ ?h2 ?h3 ?h4); (case h0 => rfl); (case h2 => rfl); (case h3 => rfl); (case h4 => decide))
  | (with_reducible refine' Ex.binop ?_)
  | ((with_reducible refine' Ex.cmp ?_ ?h1); (case h1 => rfl))
  | (with_reducible refine' Ex.neg ?_)
  | ((with_reducible refine' Ex.info ?h0 ?_ ?h2); (case h0 => assumption); (case h2 => rfl))
  | (with_reducible refine' Ex.ite ?_)
  | (with_reducible refine' Ex.or2 ?_)
  | (with_reducible refine' Ex.and2 ?_)
  | (with_reducible refine' Ex.bool1 ?_)
  | ((with_reducible refine' Ts.cmp ?_ ?h1); (case h1 => rfl))
  | (with_reducible refine' Ts.and2 ?_)
  | (with_reducible refine' TrB.and1 ?_)
  | (with_reducible refine' TrB.and0 ?_)
  | (with_reducible refine' TrB.or1 ?_)
  | (with_reducible refine' TrB.or0 ?_)
  | (with_reducible refine' Bo.add ?_)
  | (with_reducible refine' Bo.sub ?_)
  | ((with_reducible refine' Bo.shr ?h0 ?_); (case h0 => decide))
  | (with_reducible refine' Bo.and ?_)
  | (with_reducible refine' Co.eq ?_)
  | (with_reducible refine' Co.ne ?_)
  | (with_reducible refine' Co.lt ?_)
  | (with_reducible refine' Co.le ?_)
  | (with_reducible refine' Co.gt ?_)
  | (with_reducible refine' Co.ge ?_)
  | (with_reducible refine' Co.eqb ?_)
  | (with_reducible refine' Tt.int ?_)
  | (with_reducible refine' Tt.bool ?_)
  | ((with_reducible refine' Ar.cons ?_ ?h1); (case h1 => rfl))
  | (with_reducible refine' Ar.nil ?_)
  | (with_reducible refine' Ex.tup ?_)
  | (with_reducible refine' Ex.list ?_)
  | refine ⟨_, _, _, _, rfl, rfl, (by first | assumption | exact IsInfo.self (by (first | assumption | exact IsInfo.self (by assumption) | exact IsInfo.upd (by assumption) (by assumption) (by first | assumption | (apply Ne.symm; assumption)))) | exact IsInfo.upd (by (first | assumption | exact IsInfo.self (by assumption) | exact IsInfo.upd (by assumption) (by assumption) (by first | assumption | (apply Ne.symm; assumption)))) (by (first | assumption | exact IsInfo.self (by assumption) | exact IsInfo.upd (by assumption) (by assumption) (by first | assumption | (apply Ne.symm; assumption)))) (by first | assumption | (apply Ne.symm; assumption))), ?_⟩
  | refine ⟨_, _, _, _, rfl, (by (first | assumption | exact IsInfo.self (by (first | assumption | exact IsInfo.self (by assumption) | exact IsInfo.upd (by assumption) (by assumption) (by first | assumption | (apply Ne.symm; assumption)))) | exact IsInfo.upd (by (first | assumption | exact IsInfo.self (by assumption) | exact IsInfo.upd (by assumption) (by assumption) (by first | assumption | (apply Ne.symm; assumption)))) (by (first | assumption | exact IsInfo.self (by assumption) | exact IsInfo.upd (by assumption) (by assumption) (by first | assumption | (apply Ne.symm; assumption)))) (by first | assumption | (apply Ne.symm; assumption)))), (by simp), rfl, rfl, ?_⟩)
  (first
  | ((with_reducible refine' Ss.name ?_ ?h1 ?h2 ?h3); (case h1 => rfl); (case h2 => rfl); (case h3 => rfl))
  | (with_reducible refine' Ss.ret ?_)
  | (with_reducible refine' Ss.ret0 ?_)
  | ((with_reducible refine' Ss.set_xa ?h0 ?_ ?h2); (case h0 => assumption); (case h2 => rfl))
  | ((with_reducible refine' Ss.set_xo ?h0 ?_ ?h2); (case h0 => assumption); (case h2 => rfl))
  | ((with_reducible refine' Ss.set_parent ?h0 ?_ ?h2); (case h0 => assumption); (case h2 => rfl))
  | ((with_reducible refine' Ss.set_un ?h0 ?_ ?h2); (case h0 => assumption); (case h2 => rfl))
  | (with_reducible refine' Ss.cond ?_)
  | (with_reducible refine' Ss.nilA ?_)
  | (with_reducible refine' Ss.nil ?_)
  | (with_reducible refine' Ex.cint ?_)
  | (with_reducible refine' Ex.cstr ?_)
  | (with_reducible refine' Ex.cbool ?_)
  | (with_reducible refine' Ex.cnone ?_)
  | ((with_reducible refine' Ex.name ?h0 ?_ ?h2 ?h3 ?h4); (case h0 => rfl); (case h2 => rfl); (case h3 => rfl); (case h4 => decide))
  | (with_reducible refine' Ex.binop ?_)
  | ((with_reducible refine' Ex.cmp ?_ ?h1); (case h1 => rfl))
  | (with_reducible refine' Ex.neg ?_)
  | ((with_reducible refine' Ex.info ?h0 ?_ ?h2); (case h0 => assumption); (case h2 => rfl))
  | (with_reducible refine' Ex.ite ?_)
  | (with_reducible refine' Ex.or2 ?_)
  | (with_reducible refine' Ex.and2 ?_)
  | (with_reducible refine' Ex.bool1 ?_)
  | ((with_reducible refine' Ts.cmp ?_ ?h1); (case h1 => rfl))
  | (with_reducible refine' Ts.and2 ?_)
  | (with_reducible refine' TrB.and1 ?_)
  | (with_reducible refine' TrB.and0 ?_)
  | (with_reducible refine' TrB.or1 ?_)
  | (with_reducible refine' TrB.or0 ?_)
  | (with_reducible refine' Bo.add ?_)
  | (with_reducible refine' Bo.sub ?_)
  | ((with_reducible refine' Bo.shr ?h0 ?_); (case h0 => decide))
  | (with_reducible refine' Bo.and ?_)
  | (with_reducible refine' Co.eq ?_)
  | (with_reducible refine' Co.ne ?_)
  | (with_reducible refine' Co.lt ?_)
  | (with_reducible refine' Co.le ?_)
  | (with_reducible refine' Co.gt ?_)
  | (with_reducible refine' Co.ge ?_)
  | (with_reducible refine' Co.eqb ?_)
  | (with_reducible refine' Tt.int ?_)
  | (with_reducible refine' Tt.bool ?_)
  | ((with_reducible refine' Ar.cons ?_ ?h1); (case h1 => rfl))
  | (with_reducible refine' Ar.nil ?_)
  | (with_reducible refine' Ex.tup ?_)
  | (with_reducible refine' Ex.list ?_)
  | refine ⟨_, _, _, _, rfl, rfl, (by first | assumption | exact IsInfo.self (by (first | assumption | exact IsInfo.self (by assumption) | exact IsInfo.upd (by assumption) (by assumption) (by first | assumption | (apply Ne.symm; assumption)))) | exact IsInfo.upd (by (first | assumption | exact IsInfo.self (by assumption) | exact IsInfo.upd (by assumption) (by assumption) (by first | assumption | (apply Ne.symm; assumption)))) (by (first | assumption | exact IsInfo.self (by assumption) | exact IsInfo.upd (by assumption) (by assumption) (by first | assumption | (apply Ne.symm; assumption)))) (by first | assumption | (apply Ne.symm; assumption))), ?_⟩
  | refine ⟨_, _, _, _, rfl, (by (first | assumption | exact IsInfo.self (by (first | assumption | exact IsInfo.self (by assumption) | exact IsInfo.upd (by assumption) (by assumption) (by first | assumption | (apply Ne.symm; assumption)))) | exact IsInfo.upd (by (first | assumption | exact IsInfo.self (by assumption) | exact IsInfo.upd (by assumption) (by assumption) (by first | assumption | (apply Ne.symm; assumption)))) (by (first | assumption | exact IsInfo.self (by assumption) | exact IsInfo.upd (by assumption) (by assumption) (by first | assumption | (apply Ne.symm; assumption)))) (by first | assumption | (apply Ne.symm; assumption)))), (by simp), rfl, rfl, ?_⟩)
  (first
  | ((with_reducible refine' Ss.name ?_ ?h1 ?h2 ?h3); (case h1 => rfl); (case h2 => rfl); (case h3 => rfl))
  | (with_reducible refine' Ss.ret ?_)
  | (with_reducible refine' Ss.ret0 ?_)
  | ((with_reducible refine' Ss.set_xa ?h0 ?_ ?h2); (case h0 => assumption); (case h2 => rfl))
  | ((with_reducible refine' Ss.set_xo ?h0 ?_ ?h2); (case h0 => assumption); (case h2 => rfl))
  | ((with_reducible refine' Ss.set_parent ?h0 ?_ ?h2); (case h0 => assumption); (case h2 => rfl))
  | ((with_reducible refine' Ss.set_un ?h0 ?_ ?h2); (case h0 => assumption); (case h2 => rfl))
  | (with_reducible refine' Ss.cond ?_)
  | (with_reducible refine' Ss.nilA ?_)
  | (with_reducible refine' Ss.nil ?_)
  | (with_reducible refine' Ex.cint ?_)
  | (with_reducible refine' Ex.cstr ?_)
  | (with_reducible refine' Ex.cbool ?_)
  | (with_reducible refine' Ex.cnone ?_)
  | ((with_reducible refine' Ex.name ?h0 ?_ ?h2 ?h3 ?h4); (case h0 => rfl); (case h2 => rfl); (case h3 => rfl); (case h4 => decide))
  | (with_reducible refine' Ex.binop ?_)
  | ((with_reducible refine' Ex.cmp ?_ ?h1); (case h1 => rfl))
  | (with_reducible refine' Ex.neg ?_)
  | ((with_reducible refine' Ex.info ?h0 ?_ ?h2); (case h0 => assumption); (case h2 => rfl))
  | (with_reducible refine' Ex.ite ?_)
  | (with_reducible refine' Ex.or2 ?_)
  | (with_reducible refine' Ex.and2 ?_)
  | (with_reducible refine' Ex.bool1 ?_)
  | ((with_reducible refine' Ts.cmp ?_ ?h1); (case h1 => rfl))
  | (with_reducible refine' Ts.and2 ?_)
  | (with_reducible refine' TrB.and1 ?_)
  | (with_reducible refine' TrB.and0 ?_)
  | (with_reducible refine' TrB.or1 ?_)
  | (with_reducible refine' TrB.or0 ?_)
  | (with_reducible refine' Bo.add ?_)
  | (with_reducible refine' Bo.sub ?_)
  | ((with_reducible refine' Bo.shr ?h0 ?_); (case h0 => decide))
  | (with_reducible refine' Bo.and ?_)
  | (with_reducible refine' Co.eq ?_)
  | (with_reducible refine' Co.ne ?_)
  | (with_reducible refine' Co.lt ?_)
  | (with_reducible refine' Co.le ?_)
  | (with_reducible refine' Co.gt ?_)
  | (with_reducible refine' Co.ge ?_)
  | (with_reducible refine' Co.eqb ?_)
  | (with_reducible refine' Tt.int ?_)
  | (with_reducible refine' Tt.bool ?_)
  | ((with_reducible refine' Ar.cons ?_ ?h1); (case h1 => rfl))
  | (with_reducible refine' Ar.nil ?_)
  | (with_reducible refine' Ex.tup ?_)
  | (with_reducible refine' Ex.list ?_)
  | refine ⟨_, _, _, _, rfl, rfl, (by first | assumption | exact IsInfo.self (by (first | assumption | exact IsInfo.self (by assumption) | exact IsInfo.upd (by assumption) (by assumption) (by first | assumption | (apply Ne.symm; assumption)))) | exact IsInfo.upd (by (first | assumption | exact IsInfo.self (by assumption) | exact IsInfo.upd (by assumption) (by assumption) (by first | assumption | (apply Ne.symm; assumption)))) (by (first | assumption | exact IsInfo.self (by assumption) | exact IsInfo.upd (by assumption) (by assumption) (by first | assumption | (apply Ne.symm; assumption)))) (by first | assumption | (apply Ne.symm; assumption))), ?_⟩
  | refine ⟨_, _, _, _, rfl, (by (first | assumption | exact IsInfo.self (by (first | assumption | exact IsInfo.self (by assumption) | exact IsInfo.upd (by assumption) (by assumption) (by first | assumption | (apply Ne.symm; assumption)))) | exact IsInfo.upd (by (first | assumption | exact IsInfo.self (by assumption) | exact IsInfo.upd (by assumption) (by assumption) (by first | assumption | (apply Ne.symm; assumption)))) (by (first | assumption | exact IsInfo.self (by assumption) | exact IsInfo.upd (by assumption) (by assumption) (by first | assumption | (apply Ne.symm; assumption)))) (by first | assumption | (apply Ne.symm; assumption)))), (by simp), rfl, rfl, ?_⟩)
  rw [ha]
  have C' := C
  obtain ⟨dg, c, c2, s, p, q, e1, e2, e3⟩ := C
  refine Ss.cons (St1.while (fun k m₁ f₁ => f₁ = f ∧ m₁ "row" = some (.ref rl) ∧ m₁ "gdef" = some (.ref g) ∧ ∃ n : Nat, m₁ "spot" = some (iv n) ∧ n + k = R.length ∧ st ≤ n ∧ ∀ p r, st ≤ p → p < n → R[p]? = some r → cl r.2.2.glyph = 3) (R.length - st)
    ⟨rfl, rfl, rfl, st, rfl, by omega, Nat.le_refl _, fun p r h1 h2 => by omega⟩ ?_)
  rintro k m₁ f₁ ⟨rfl, hrow, hgd, n, hsp, hk, hst, hmk⟩
  refine Ts.and2 (Ts.cmp (Ex.name (v := iv n) hsp (Ex.callF hG bi_len (Ar.cons (Ex.name (v := .ref rl) hrow (Ar.nil (Ca.len hl (by rw [List.length_map]; omega) ?_)))))))
  (first
  | ((with_reducible refine' Ss.name ?_ ?h1 ?h2 ?h3); (case h1 => rfl); (case h2 => rfl); (case h3 => rfl))
  | (with_reducible refine' Ss.ret ?_)
  | (with_reducible refine' Ss.ret0 ?_)
  | ((with_reducible refine' Ss.set_xa ?h0 ?_ ?h2); (case h0 => assumption); (case h2 => rfl))
  | ((with_reducible refine' Ss.set_xo ?h0 ?_ ?h2); (case h0 => assumption); (case h2 => rfl))
  | ((with_reducible refine' Ss.set_parent ?h0 ?_ ?h2); (case h0 => assumption); (case h2 => rfl))
  | ((with_reducible refine' Ss.set_un ?h0 ?_ ?h2); (case h0 => assumption); (case h2 => rfl))
  | (with_reducible refine' Ss.cond ?_)
  | (with_reducible refine' Ss.nilA ?_)
  | (with_reducible refine' Ss.nil ?_)
  | (with_reducible refine' Ex.cint ?_)
  | (with_reducible refine' Ex.cstr ?_)
  | (with_reducible refine' Ex.cbool ?_)
  | (with_reducible refine' Ex.cnone ?_)
  | ((with_reducible refine' Ex.name ?h0 ?_ ?h2 ?h3 ?h4); (case h0 => rfl); (case h2 => rfl); (case h3 => rfl); (case h4 => decide))
  | (with_reducible refine' Ex.binop ?_)
  | ((with_reducible refine' Ex.cmp ?_ ?h1); (case h1 => rfl))
  | (with_reducible refine' Ex.neg ?_)
  | ((with_reducible refine' Ex.info ?h0 ?_ ?h2); (case h0 => assumption); (case h2 => rfl))
  | (with_reducible refine' Ex.ite ?_)
  | (with_reducible refine' Ex.or2 ?_)
  | (with_reducible refine' Ex.and2 ?_)
  | (with_reducible refine' Ex.bool1 ?_)
  | ((with_reducible refine' Ts.cmp ?_ ?h1); (case h1 => rfl))
  | (with_reducible refine' Ts.and2 ?_)
  | (with_reducible refine' TrB.and1 ?_)
  | (with_reducible refine' TrB.and0 ?_)
  | (with_reducible refine' TrB.or1 ?_)
  | (with_reducible refine' TrB.or0 ?_)
  | (with_reducible refine' Bo.add ?_)
  | (with_reducible refine' Bo.sub ?_)
  | ((with_reducible refine' Bo.shr ?h0 ?_); (case h0 => decide))
  | (with_reducible refine' Bo.and ?_)
  | (with_reducible refine' Co.eq ?_)
  | (with_reducible refine' Co.ne ?_)
  | (with_reducible refine' Co.lt ?_)
  | (with_reducible refine' Co.le ?_)
  | (with_reducible refine' Co.gt ?_)
  | (with_reducible refine' Co.ge ?_)
  | (with_reducible refine' Co.eqb ?_)
  | (with_reducible refine' Tt.int ?_)
  | (with_reducible refine' Tt.bool ?_)
  | ((with_reducible refine' Ar.cons ?_ ?h1); (case h1 => rfl))
  | (with_reducible refine' Ar.nil ?_)
  | (with_reducible refine' Ex.tup ?_)
  | (with_reducible refine' Ex.list ?_)
  | refine ⟨_, _, _, _, rfl, rfl, (by first | assumption | exact IsInfo.self (by (first | assumption | exact IsInfo.self (by assumption) | exact IsInfo.upd (by assumption) (by assumption) (by first | assumption | (apply Ne.symm; assumption)))) | exact IsInfo.upd (by (first | assumption | exact IsInfo.self (by assumption) | exact IsInfo.upd (by assumption) (by assumption) (by first | assumption | (apply Ne.symm; assumption)))) (by (first | assumption | exact IsInfo.self (by assumption) | exact IsInfo.upd (by assumption) (by assumption) (by first | assumption | (apply Ne.symm; assumption)))) (by first | assumption | (apply Ne.symm; assumption))), ?_⟩
  | refine ⟨_, _, _, _, rfl, (by (first | assumption | exact IsInfo.self (by (first | assumption | exact IsInfo.self (by assumption) | exact IsInfo.upd (by assumption) (by assumption) (by first | assumption | (apply Ne.symm; assumption)))) | exact IsInfo.upd (by (first | assumption | exact IsInfo.self (by assumption) | exact IsInfo.upd (by assumption) (by assumption) (by first | assumption | (apply Ne.symm; assumption)))) (by (first | assumption | exact IsInfo.self (by assumption) | exact IsInfo.upd (by assumption) (by assumption) (by first | assumption | (apply Ne.symm; assumption)))) (by first | assumption | (apply Ne.symm; assumption)))), (by simp), rfl, rfl, ?_⟩)
  refine ⟨_, rfl, ?_⟩
  by_cases hlt : n < R.length
  · rw [if_pos (by simpa using hlt)]
    have hr : R[n]? = some R[n] := List.getElem?_eq_getElem hlt
    generalize R[n] = r at hr
    refine TrB.and1 (Ts.cmp ?_)
    refine Ex.meth hG ?_ (pl := ?pl) (hc := ?hc); (case hc => rfl)
    refine Ex.name (v := .ref g) hgd ⟨_, _, keep_K kp_glyph_class, meth_inst hG mt_glyph_class e1 e2 rfl, ?_⟩
    refine Ar.cons (Ex.info hG (Ex.sub (Ex.name (v := .ref rl) hrow (Ex.name (v := iv n) hsp ⟨rl, n, refs R, .ref r.1, rfl, rfl, hl, by omega, by omega, by rw [Int.toNat_natCast, refs_get, hr]; rfl, ?_⟩))))
    refine ⟨r.1, r.2.1, r.2.2, _, rfl, hR.get hr, by simp, rfl, rfl, ?_⟩
    refine Ar.nil (Ca.def (glyph_class_spec hG hA C' (hv _) ?_))
    refine Ex.gint hG gl_MARK ?_
    (first
  | ((with_reducible refine' Ss.name ?_ ?h1 ?h2 ?h3); (case h1 => rfl); (case h2 => rfl); (case h3 => rfl))
  | (with_reducible refine' Ss.ret ?_)
  | (with_reducible refine' Ss.ret0 ?_)
  | ((with_reducible refine' Ss.set_xa ?h0 ?_ ?h2); (case h0 => assumption); (case h2 => rfl))
  | ((with_reducible refine' Ss.set_xo ?h0 ?_ ?h2); (case h0 => assumption); (case h2 => rfl))
  | ((with_reducible refine' Ss.set_parent ?h0 ?_ ?h2); (case h0 => assumption); (case h2 => rfl))
  | ((with_reducible refine' Ss.set_un ?h0 ?_ ?h2); (case h0 => assumption); (case h2 => rfl))
  | (with_reducible refine' Ss.cond ?_)
  | (with_reducible refine' Ss.nilA ?_)
  | (with_reducible refine' Ss.nil ?_)
  | (with_reducible refine' Ex.cint ?_)
  | (with_reducible refine' Ex.cstr ?_)
  | (with_reducible refine' Ex.cbool ?_)
  | (with_reducible refine' Ex.cnone ?_)
  | ((with_reducible refine' Ex.name ?h0 ?_ ?h2 ?h3 ?h4); (case h0 => rfl); (case h2 => rfl); (case h3 => rfl); (case h4 => decide))
  | (with_reducible refine' Ex.binop ?_)
  | ((with_reducible refine' Ex.cmp ?_ ?h1); (case h1 => rfl))
  | (with_reducible refine' Ex.neg ?_)
  | ((with_reducible refine' Ex.info ?h0 ?_ ?h2); (case h0 => assumption); (case h2 => rfl))
  | (with_reducible refine' Ex.ite ?_)
  | (with_reducible refine' Ex.or2 ?_)
  | (with_reducible refine' Ex.and2 ?_)
  | (with_reducible refine' Ex.bool1 ?_)
  | ((with_reducible refine' Ts.cmp ?_ ?h1); (case h1 => rfl))
  | (with_reducible refine' Ts.and2 ?_)
  | (with_reducible refine' TrB.and1 ?_)
  | (with_reducible refine' TrB.and0 ?_)
  | (with_reducible refine' TrB.or1 ?_)
  | (with_reducible refine' TrB.or0 ?_)
  | (with_reducible refine' Bo.add ?_)
  | (with_reducible refine' Bo.sub ?_)
  | ((with_reducible refine' Bo.shr ?h0 ?_); (case h0 => decide))
  | (with_reducible refine' Bo.and ?_)
  | (with_reducible refine' Co.eq ?_)
  | (with_reducible refine' Co.ne ?_)
  | (with_reducible refine' Co.lt ?_)
  | (with_reducible refine' Co.le ?_)
  | (with_reducible refine' Co.gt ?_)
  | (with_reducible refine' Co.ge ?_)
  | (with_reducible refine' Co.eqb ?_)
  | (with_reducible refine' Tt.int ?_)
  | (with_reducible refine' Tt.bool ?_)
  | ((with_reducible refine' Ar.cons ?_ ?h1); (case h1 => rfl))
  | (with_reducible refine' Ar.nil ?_)
  | (with_reducible refine' Ex.tup ?_)
  | (with_reducible refine' Ex.list ?_)
  | refine ⟨_, _, _, _, rfl, rfl, (by first | assumption | exact IsInfo.self (by (first | assumption | exact IsInfo.self (by assumption) | exact IsInfo.upd (by assumption) (by assumption) (by first | assumption | (apply Ne.symm; assumption)))) | exact IsInfo.upd (by (first | assumption | exact IsInfo.self (by assumption) | exact IsInfo.upd (by assumption) (by assumption) (by first | assumption | (apply Ne.symm; assumption)))) (by (first | assumption | exact IsInfo.self (by assumption) | exact IsInfo.upd (by assumption) (by assumption) (by first | assumption | (apply Ne.symm; assumption)))) (by first | assumption | (apply Ne.symm; assumption))), ?_⟩
  | refine ⟨_, _, _, _, rfl, (by (first | assumption | exact IsInfo.self (by (first | assumption | exact IsInfo.self (by assumption) | exact IsInfo.upd (by assumption) (by assumption) (by first | assumption | (apply Ne.symm; assumption)))) | exact IsInfo.upd (by (first | assumption | exact IsInfo.self (by assumption) | exact IsInfo.upd (by assumption) (by assumption) (by first | assumption | (apply Ne.symm; assumption)))) (by (first | assumption | exact IsInfo.self (by assumption) | exact IsInfo.upd (by assumption) (by assumption) (by first | assumption | (apply Ne.symm; assumption)))) (by first | assumption | (apply Ne.symm; assumption)))), (by simp), rfl, rfl, ?_⟩)
    refine ⟨_, rfl, ?_⟩
    by_cases h3 : cl r.2.2.glyph = 3
    · rw [if_pos (by rw [h3]; decide)]
      refine TrB.and0 ?_
      rw [if_pos rfl]
      refine Ss.name (Ex.binop (Ex.name (v := iv n) hsp ?_))
      (first
  | ((with_reducible refine' Ss.name ?_ ?h1 ?h2 ?h3); (case h1 => rfl); (case h2 => rfl); (case h3 => rfl))
  | (with_reducible refine' Ss.ret ?_)
  | (with_reducible refine' Ss.ret0 ?_)
  | ((with_reducible refine' Ss.set_xa ?h0 ?_ ?h2); (case h0 => assumption); (case h2 => rfl))
  | ((with_reducible refine' Ss.set_xo ?h0 ?_ ?h2); (case h0 => assumption); (case h2 => rfl))
  | ((with_reducible refine' Ss.set_parent ?h0 ?_ ?h2); (case h0 => assumption); (case h2 => rfl))
  | ((with_reducible refine' Ss.set_un ?h0 ?_ ?h2); (case h0 => assumption); (case h2 => rfl))
  | (with_reducible refine' Ss.cond ?_)
  | (with_reducible refine' Ss.nilA ?_)
  | (with_reducible refine' Ss.nil ?_)
  | (with_reducible refine' Ex.cint ?_)
  | (with_reducible refine' Ex.cstr ?_)
  | (with_reducible refine' Ex.cbool ?_)
  | (with_reducible refine' Ex.cnone ?_)
  | ((with_reducible refine' Ex.name ?h0 ?_ ?h2 ?h3 ?h4); (case h0 => rfl); (case h2 => rfl); (case h3 => rfl); (case h4 => decide))
  | (with_reducible refine' Ex.binop ?_)
  | ((with_reducible refine' Ex.cmp ?_ ?h1); (case h1 => rfl))
  | (with_reducible refine' Ex.neg ?_)
  | ((with_reducible refine' Ex.info ?h0 ?_ ?h2); (case h0 => assumption); (case h2 => rfl))
  | (with_reducible refine' Ex.ite ?_)
  | (with_reducible refine' Ex.or2 ?_)
  | (with_reducible refine' Ex.and2 ?_)
  | (with_reducible refine' Ex.bool1 ?_)
  | ((with_reducible refine' Ts.cmp ?_ ?h1); (case h1 => rfl))
  | (with_reducible refine' Ts.and2 ?_)
  | (with_reducible refine' TrB.and1 ?_)
  | (with_reducible refine' TrB.and0 ?_)
  | (with_reducible refine' TrB.or1 ?_)
  | (with_reducible refine' TrB.or0 ?_)
  | (with_reducible refine' Bo.add ?_)
  | (with_reducible refine' Bo.sub ?_)
  | ((with_reducible refine' Bo.shr ?h0 ?_); (case h0 => decide))
  | (with_reducible refine' Bo.and ?_)
  | (with_reducible refine' Co.eq ?_)
  | (with_reducible refine' Co.ne ?_)
  | (with_reducible refine' Co.lt ?_)
  | (with_reducible refine' Co.le ?_)
  | (with_reducible refine' Co.gt ?_)
  | (with_reducible refine' Co.ge ?_)
  | (with_reducible refine' Co.eqb ?_)
  | (with_reducible refine' Tt.int ?_)
  | (with_reducible refine' Tt.bool ?_)
  | ((with_reducible refine' Ar.cons ?_ ?h1); (case h1 => rfl))
  | (with_reducible refine' Ar.nil ?_)
  | (with_reducible refine' Ex.tup ?_)
  | (with_reducible refine' Ex.list ?_)
  | refine ⟨_, _, _, _, rfl, rfl, (by first | assumption | exact IsInfo.self (by (first | assumption | exact IsInfo.self (by assumption) | exact IsInfo.upd (by assumption) (by assumption) (by first | assumption | (apply Ne.symm; assumption)))) | exact IsInfo.upd (by (first | assumption | exact IsInfo.self (by assumption) | exact IsInfo.upd (by assumption) (by assumption) (by first | assumption | (apply Ne.symm; assumption)))) (by (first | assumption | exact IsInfo.self (by assumption) | exact IsInfo.upd (by assumption) (by assumption) (by first | assumption | (apply Ne.symm; assumption)))) (by first | assumption | (apply Ne.symm; assumption))), ?_⟩
  | refine ⟨_, _, _, _, rfl, (by (first | assumption | exact IsInfo.self (by (first | assumption | exact IsInfo.self (by assumption) | exact IsInfo.upd (by assumption) (by assumption) (by first | assumption | (apply Ne.symm; assumption)))) | exact IsInfo.upd (by (first | assumption | exact IsInfo.self (by assumption) | exact IsInfo.upd (by assumption) (by assumption) (by first | assumption | (apply Ne.symm; assumption)))) (by (first | assumption | exact IsInfo.self (by assumption) | exact IsInfo.upd (by assumption) (by assumption) (by first | assumption | (apply Ne.symm; assumption)))) (by first | assumption | (apply Ne.symm; assumption)))), (by simp), rfl, rfl, ?_⟩)
      (first
  | ((with_reducible refine' Ss.name ?_ ?h1 ?h2 ?h3); (case h1 => rfl); (case h2 => rfl); (case h3 => rfl))
  | (with_reducible refine' Ss.ret ?_)
  | (with_reducible refine' Ss.ret0 ?_)
  | ((with_reducible refine' Ss.set_xa ?h0 ?_ ?h2); (case h0 => assumption); (case h2 => rfl))
  | ((with_reducible refine' Ss.set_xo ?h0 ?_ ?h2); (case h0 => assumption); (case h2 => rfl))
  | ((with_reducible refine' Ss.set_parent ?h0 ?_ ?h2); (case h0 => assumption); (case h2 => rfl))
  | ((with_reducible refine' Ss.set_un ?h0 ?_ ?h2); (case h0 => assumption); (case h2 => rfl))
  | (with_reducible refine' Ss.cond ?_)
  | (with_reducible refine' Ss.nilA ?_)
  | (with_reducible refine' Ss.nil ?_)
  | (with_reducible refine' Ex.cint ?_)
  | (with_reducible refine' Ex.cstr ?_)
  | (with_reducible refine' Ex.cbool ?_)
  | (with_reducible refine' Ex.cnone ?_)
  | ((with_reducible refine' Ex.name ?h0 ?_ ?h2 ?h3 ?h4); (case h0 => rfl); (case h2 => rfl); (case h3 => rfl); (case h4 => decide))
  | (with_reducible refine' Ex.binop ?_)
  | ((with_reducible refine' Ex.cmp ?_ ?h1); (case h1 => rfl))
  | (with_reducible refine' Ex.neg ?_)
  | ((with_reducible refine' Ex.info ?h0 ?_ ?h2); (case h0 => assumption); (case h2 => rfl))
  | (with_reducible refine' Ex.ite ?_)
  | (with_reducible refine' Ex.or2 ?_)
  | (with_reducible refine' Ex.and2 ?_)
  | (with_reducible refine' Ex.bool1 ?_)
  | ((with_reducible refine' Ts.cmp ?_ ?h1); (case h1 => rfl))
  | (with_reducible refine' Ts.and2 ?_)
  | (with_reducible refine' TrB.and1 ?_)
  | (with_reducible refine' TrB.and0 ?_)
  | (with_reducible refine' TrB.or1 ?_)
  | (with_reducible refine' TrB.or0 ?_)
  | (with_reducible refine' Bo.add ?_)
  | (with_reducible refine' Bo.sub ?_)
  | ((with_reducible refine' Bo.shr ?h0 ?_); (case h0 => decide))
  | (with_reducible refine' Bo.and ?_)
  | (with_reducible refine' Co.eq ?_)
  | (with_reducible refine' Co.ne ?_)
  | (with_reducible refine' Co.lt ?_)
  | (with_reducible refine' Co.le ?_)
  | (with_reducible refine' Co.gt ?_)
  | (with_reducible refine' Co.ge ?_)
  | (with_reducible refine' Co.eqb ?_)
  | (with_reducible refine' Tt.int ?_)
  | (with_reducible refine' Tt.bool ?_)
  | ((with_reducible refine' Ar.cons ?_ ?h1); (case h1 => rfl))
  | (with_reducible refine' Ar.nil ?_)
  | (with_reducible refine' Ex.tup ?_)
  | (with_reducible refine' Ex.list ?_)
  | refine ⟨_, _, _, _, rfl, rfl, (by first | assumption | exact IsInfo.self (by (first | assumption | exact IsInfo.self (by assumption) | exact IsInfo.upd (by assumption) (by assumption) (by first | assumption | (apply Ne.symm; assumption)))) | exact IsInfo.upd (by (first | assumption | exact IsInfo.self (by assumption) | exact IsInfo.upd (by assumption) (by assumption) (by first | assumption | (apply Ne.symm; assumption)))) (by (first | assumption | exact IsInfo.self (by assumption) | exact IsInfo.upd (by assumption) (by assumption) (by first | assumption | (apply Ne.symm; assumption)))) (by first | assumption | (apply Ne.symm; assumption))), ?_⟩
  | refine ⟨_, _, _, _, rfl, (by (first | assumption | exact IsInfo.self (by (first | assumption | exact IsInfo.self (by assumption) | exact IsInfo.upd (by assumption) (by assumption) (by first | assumption | (apply Ne.symm; assumption)))) | exact IsInfo.upd (by (first | assumption | exact IsInfo.self (by assumption) | exact IsInfo.upd (by assumption) (by assumption) (by first | assumption | (apply Ne.symm; assumption)))) (by (first | assumption | exact IsInfo.self (by assumption) | exact IsInfo.upd (by assumption) (by assumption) (by first | assumption | (apply Ne.symm; assumption)))) (by first | assumption | (apply Ne.symm; assumption)))), (by simp), rfl, rfl, ?_⟩)
      refine Ss.nil ⟨rfl, k - 1, by omega, rfl, hrow, hgd, n + 1, rfl, by omega, by omega, fun p r' h1 h2 h3' => ?_⟩
      by_cases q : p = n
      · subst q; rw [hr] at h3'; cases h3'; exact h3
      · exact hmk p r' h1 (by omega) h3'
    · rw [if_neg (by
        intro x; apply h3
        have := beq_iff_eq.mp x
        split at this <;> omega)]
      rw [if_neg (by decide)]
      exact andNext (Ss.ret (Ex.name (v := iv n) hsp (h n hst (by omega) hmk fun r' e => by rw [hr] at e; cases e; exact h3)))
  · rw [if_neg (by simpa using hlt)]
    rw [if_neg (by decide)]
    exact andNext (Ss.ret (Ex.name (v := iv n) hsp (h n hst (by omega) hmk fun r' e => by rw [List.getElem?_eq_none (by omega)] at e; cases e)))

end Mine

namespace Mine
-- W6
set_option maxRecDepth 100000
set_option maxHeartbeats 2000000
theorem fillit6 : (PySem.Challenge.rw_nu0162_01 = PySem.Challenge.rw_nu0162_01) ∧ (∀ P, KK P = KK P) := by
  k_fill
  exact ⟨rfl, fun _ => rfl⟩
variable {w : World} {h₀ : Heap} {A : Around} {f f' : Fh}
theorem df_next {P : Params} : DefOk (KK P) "next_kerned" 121 := ⟨by k_is, by k_is⟩
theorem df_put {P : Params} : DefOk (KK P) "put_distance" 128 := ⟨by k_is, by k_is⟩
theorem df_hang {P : Params} : DefOk (KK P) "hang" 107 := ⟨by k_is, by k_is⟩
theorem df_turn {P : Params} : DefOk (KK P) "turn_row" 114 := ⟨by k_is, by k_is⟩
theorem df_kern {P : Params} : DefOk (KK P) "kern_row" 135 := ⟨by k_is, by k_is⟩
theorem Row.notDs {R : Rw} (h : Row w f R) {a : Addr} {c : Cel} (e : f a = some c) (n : ∀ y, c ≠ .dict (infoEs w.params y)) : a ∉ Ds R := fun q => by
  obtain ⟨r, hr, rfl⟩ := List.mem_map.mp q
  have := e.symm.trans (h.2 r hr).2
  exact n r.2.2 (Option.some.inj this)
theorem nd_len {es : List DictEntry} (h : es.length ≠ 15) : ∀ y : Inf, (Cel.dict es) ≠ .dict (infoEs w.params y) := fun y e => h (by rw [Cel.dict.inj e]; rfl)
theorem hl_of {R : Rw} {rl : Addr} {xs : List Value} (hR : Row w f R) (hl : f rl = some (.list xs)) (e : Ext (Ds R) f f') : f' rl = some (.list xs) := e _ _ hl (hR.notDs hl fun y e => by cases e)
theorem IsGdef.ext {R : Rw} {g : Addr} {kvs : List (Int × Value)} (C : IsGdef w f g kvs) (hR : Row w f R) (e : Ext (Ds R) f f') : IsGdef w f' g kvs := by
  obtain ⟨dg, c, c2, s, p, q, e1, e2, dc, D, c1, c3, c4⟩ := C
  exact ⟨dg, c, c2, s, p, q, e _ _ e1 (hR.notDs e1 fun y e => by cases e), e _ _ e2 (hR.notDs e2 (nd_len (by simp))), dc, D, e _ _ c1 (hR.notDs c1 fun y e => by cases e), e _ _ c3 (hR.notDs c3 (nd_len (by simp))), e _ _ c4 (hR.notDs c4 fun y e => by cases e)⟩
theorem KeysAt.ext {R : Rw} {xs : List (List Int × Addr × Value)} (k : KeysAt f xs) (hR : Row w f R) (e : Ext (Ds R) f f') : KeysAt f' xs := fun x hx => e _ _ (k x hx) (hR.notDs (k x hx) fun y e => by cases e)
theorem Row.get' {R : Rw} {G : Nat → Inf → Inf} {n : Nat} {r : Addr × Addr × Inf} (h : Row w f (upd G R)) (e : R[n]? = some r) : IsInfo w f r.1 r.2.1 (G n r.2.2) := h.get (n := n) (r := (r.1, r.2.1, G n r.2.2)) (by rw [upd_get, e]; rfl)
section
variable {env : Env} {m : Loc} {P : Value → Fh → Prop}
theorem Ex.rowR {x y : PySem.Str} {px py pos : Pos} {rl : Addr} {a : Nat} {R : Rw} {r : Addr × Addr × Inf} (hx : m x = some (.ref rl)) (hy : m y = some (iv a)) (hl : IsL f rl (refs R)) (hz : R.length ≤ 1000) (hr : R[a]? = some r) (h : P (.ref r.1) f)
    (hk : env.scope.kind = .function := by rfl) (hlx : env.kindOf x = some .local := by rfl) (hly : env.kindOf y = some .local := by rfl) (hdx : (x == ("__debug__" : PySem.Str)) = false := by decide) (hdy : (y == ("__debug__" : PySem.Str)) = false := by decide)
    (hs : ∀ o v : Value, subscripted (.Name y py) false o v = operate [o, v] (getItem o v) := by intro _ _; rfl) : Ex ⟨GG w h₀, A, env⟩ m f (.Subscript (.Name x px) (.Name y py) pos) P :=
  Ex.sub (Ex.name hx (Ex.name hy ⟨rl, a, refs R, .ref r.1, rfl, rfl, hl, by omega, by have := (List.getElem?_eq_some_iff.mp hr).1; omega, by rw [Int.toNat_natCast, refs_get, hr]; rfl, h⟩ hk hly hdy) hk hlx hdx) hs
theorem Ex.rowA {x y n : PySem.Str} {px py pos ap : Pos} {rl : Addr} {a : Nat} {R : Rw} {G : Nat → Inf → Inf} {r : Addr × Addr × Inf} {u : Value} (hG : (GG w h₀).Ok) (hx : m x = some (.ref rl)) (hy : m y = some (iv a)) (hl : IsL f rl (refs R)) (hz : R.length ≤ 1000) (hR : Row w f (upd G R)) (hr : R[a]? = some r)
    (hn : n ∈ (["glyph", "cluster", "mask", "is_unsafe", "x_advance", "y_advance", "x_offset", "y_offset", "parent", "bond"] : List PySem.Str)) (hg : getL n (infoEs w.params (G a r.2.2)) = some (some u)) (hh : handedIn u = true) (h : P u f)
    (hk : env.scope.kind = .function := by rfl) (hlx : env.kindOf x = some .local := by rfl) (hly : env.kindOf y = some .local := by rfl) (hdx : (x == ("__debug__" : PySem.Str)) = false := by decide) (hdy : (y == ("__debug__" : PySem.Str)) = false := by decide)
    (hs : ∀ o v : Value, subscripted (.Name y py) false o v = operate [o, v] (getItem o v) := by intro _ _; rfl)
    (he : eval (.Attribute (.Subscript (.Name x px) (.Name y py) pos) n ap) env = (do let v ← eval (.Subscript (.Name x px) (.Name y py) pos) env; standAt ap.atName; let r ← holding [v] (getAttr v n true); letTemporaryGo (.Subscript (.Name x px) (.Name y py) pos) v r; pure r) := by rfl) :
    Ex ⟨GG w h₀, A, env⟩ m f (.Attribute (.Subscript (.Name x px) (.Name y py) pos) n ap) P :=
  Ex.info hG (Ex.rowR hx hy hl hz hr ⟨r.1, r.2.1, G a r.2.2, u, rfl, hR.get' hr, hn, hg, hh, h⟩ hk hlx hly hdx hdy hs) he
end
/-- the while loop of kern_row -/
def KInv (w : World) (f : Fh) (b g p rl : Addr) (R : Rw) (cl : Int → Int) (pv : Int → Int → Int) (mask : Int) (k : Nat) (m₁ : Loc) (f₁ : Fh) : Prop :=
  m₁ "row" = some (.ref rl) ∧ m₁ "buffer" = some (.ref b) ∧ m₁ "gdef" = some (.ref g) ∧ m₁ "pairs" = some (.ref p) ∧ m₁ "mask" = some (iv mask) ∧
    ∃ (a : Nat) (D : List (Nat × Nat)), m₁ "at" = some (iv a) ∧ a + k = R.length ∧ (a < R.length → D ++ prs (a :: U R cl (a + 1)) = prs (U R cl 0)) ∧ (a = R.length → D = prs (U R cl 0)) ∧ Ext (Ds R) f f₁ ∧ Row w f₁ (upd (allG R pv mask D) R)
theorem Row.put {R : Rw} {i j : Nat} {ra rb : Addr × Addr × Inf} {d : Int} (hR : Row w f R) (ea : R[i]? = some ra) (eb : R[j]? = some rb) (hne : i ≠ j) (hoff : ∀ b, b ≠ ra.2.1 → b ≠ rb.2.1 → f' b = f b)
    (i1 : IsInfo w f' ra.1 ra.2.1 (ra.2.2.s_xa (ra.2.2.xa + d / 2))) (i2 : IsInfo w f' rb.1 rb.2.1 ((rb.2.2.s_xa (rb.2.2.xa + (d - d / 2))).s_xo (rb.2.2.xo + (d - d / 2)))) : Row w f' (upd (putG i j d) R) := by
  refine Row.of hR.1 fun n r e => ?_
  unfold putG
  by_cases h1 : n = i
  · subst h1; rw [ea] at e; cases e; rw [if_pos rfl]; exact i1
  rw [if_neg h1]
  by_cases h2 : n = j
  · subst h2; rw [eb] at e; cases e; rw [if_pos rfl]; exact i2
  rw [if_neg h2]
  have I := hR.get e
  exact ⟨(hoff _ (fun q => hR.off (List.mem_of_getElem? e) (List.mem_map.mpr ⟨ra, List.mem_of_getElem? ea, q.symm⟩)) (fun q => hR.off (List.mem_of_getElem? e) (List.mem_map.mpr ⟨rb, List.mem_of_getElem? eb, q.symm⟩))).trans I.1,
    (hoff _ (hR.ne e ea h1) (hR.ne e eb h2)).trans I.2⟩
theorem clus_upd {R : Rw} {G : Nat → Inf → Inf} (hG : ∀ n x, (G n x).cluster = x.cluster) (i j : Nat) (c : Int) : c ∈ clus (upd G R) i j ↔ c ∈ clus R i j := by
  rw [mem_clus, mem_clus]
  constructor
  · rintro ⟨n, r, h1, h2, h3, rfl⟩
    rw [upd_get] at h3
    obtain ⟨r', h4, rfl⟩ := Option.map_eq_some_iff.mp h3
    exact ⟨n, r', h1, h2, h4, hG ..⟩
  · rintro ⟨n, r, h1, h2, h3, rfl⟩
    exact ⟨n, _, h1, h2, by rw [upd_get, h3]; rfl, (hG ..).symm⟩
theorem kern_row_spec {b bd rl p g : Addr} {back : Bool} {R : Rw} {kvs : List (Int × Value)} {cl : Int → Int} {xs : List (List Int × Addr × Value)} {pv : Int → Int → Int} {mask : Int} {P : Value → Fh → Prop} (hG : (GG w h₀).Ok) (hA : Rm 5 A)
    (B : IsBuf w f b bd rl back) (hl : f rl = some (.list (refs R))) (hR : Row w f R) (hz : R.length ≤ 1000) (C : IsGdef w f g kvs) (hv : ∀ k, (valueAt kvs k).getD (iv 0) = iv (cl k)) (hp : f p = some (.pdict xs)) (hk : KeysAt f xs)
    (hpv : ∀ a b, ((atKey xs [a, b]).map (·.2)).getD (iv 0) = iv (pv a b)) (h : ∀ f', Ext (Ds R) f f' → Row w f' (upd (allG R pv mask (prs (U R cl 0))) R) → P .none f') :
    Cd (GG w h₀) A f 135 [.ref b, .ref g, .ref p, iv mask] P := by
  refine Cd.enter4 (n₁ := "buffer") (n₂ := "gdef") (n₃ := "pairs") (n₄ := "mask") hG hA (ho_lit (by dsimp only; k_is) rfl) (by dsimp only; k_is) fun L hA => ?_
  refine Ss.name (Ex.brow hG (Ex.name rfl ⟨b, bd, rl, back, rfl, B, ?_⟩))
  refine Ss.name (Ex.callD hG df_next (Ar.cons (Ex.name rfl (Ar.cons (Ex.neg ?_) rfl)) rfl))
  (first
  | ((with_reducible refine' Ss.name ?_ ?h1 ?h2 ?h3); (case h1 => rfl); (case h2 => rfl); (case h3 => rfl))
  | (with_reducible refine' Ss.ret ?_)
  | (with_reducible refine' Ss.ret0 ?_)
  | ((with_reducible refine' Ss.set_xa ?h0 ?_ ?h2); (case h0 => assumption); (case h2 => rfl))
  | ((with_reducible refine' Ss.set_xo ?h0 ?_ ?h2); (case h0 => assumption); (case h2 => rfl))
  | ((with_reducible refine' Ss.set_parent ?h0 ?_ ?h2); (case h0 => assumption); (case h2 => rfl))
  | ((with_reducible refine' Ss.set_un ?h0 ?_ ?h2); (case h0 => assumption); (case h2 => rfl))
  | (with_reducible refine' Ss.cond ?_)
  | (with_reducible refine' Ss.nilA ?_)
  | (with_reducible refine' Ss.nil ?_)
  | (with_reducible refine' Ex.cint ?_)
  | (with_reducible refine' Ex.cstr ?_)
  | (with_reducible refine' Ex.cbool ?_)
  | (with_reducible refine' Ex.cnone ?_)
  | ((with_reducible refine' Ex.name ?h0 ?_ ?h2 ?h3 ?h4); (case h0 => rfl); (case h2 => rfl); (case h3 => rfl); (case h4 => decide))
  | (with_reducible refine' Ex.binop ?_)
  | ((with_reducible refine' Ex.cmp ?_ ?h1); (case h1 => rfl))
  | (with_reducible refine' Ex.neg ?_)
  | ((with_reducible refine' Ex.info ?h0 ?_ ?h2); (case h0 => assumption); (case h2 => rfl))
  | (with_reducible refine' Ex.ite ?_)
  | (with_reducible refine' Ex.or2 ?_)
  | (with_reducible refine' Ex.and2 ?_)
  | (with_reducible refine' Ex.bool1 ?_)
  | ((with_reducible refine' Ts.cmp ?_ ?h1); (case h1 => rfl))
  | (with_reducible refine' Ts.and2 ?_)
  | (with_reducible refine' TrB.and1 ?_)
  | (with_reducible refine' TrB.and0 ?_)
  | (with_reducible refine' TrB.or1 ?_)
  | (with_reducible refine' TrB.or0 ?_)
  | (with_reducible refine' Bo.add ?_)
  | (with_reducible refine' Bo.sub ?_)
  | ((with_reducible refine' Bo.shr ?h0 ?_); (case h0 => decide))
  | (with_reducible refine' Bo.and ?_)
  | (with_reducible refine' Co.eq ?_)
  | (with_reducible refine' Co.ne ?_)
  | (with_reducible refine' Co.lt ?_)
  | (with_reducible refine' Co.le ?_)
  | (with_reducible refine' Co.gt ?_)
  | (with_reducible refine' Co.ge ?_)
  | (with_reducible refine' Co.eqb ?_)
  | (with_reducible refine' Tt.int ?_)
  | (with_reducible refine' Tt.bool ?_)
  | ((with_reducible refine' Ar.cons ?_ ?h1); (case h1 => rfl))
  | (with_reducible refine' Ar.nil ?_)
  | (with_reducible refine' Ex.tup ?_)
  | (with_reducible refine' Ex.list ?_)
  | refine ⟨_, _, _, _, rfl, rfl, (by first | assumption | exact IsInfo.self (by (first | assumption | exact IsInfo.self (by assumption) | exact IsInfo.upd (by assumption) (by assumption) (by first | assumption | (apply Ne.symm; assumption)))) | exact IsInfo.upd (by (first | assumption | exact IsInfo.self (by assumption) | exact IsInfo.upd (by assumption) (by assumption) (by first | assumption | (apply Ne.symm; assumption)))) (by (first | assumption | exact IsInfo.self (by assumption) | exact IsInfo.upd (by assumption) (by assumption) (by first | assumption | (apply Ne.symm; assumption)))) (by first | assumption | (apply Ne.symm; assumption))), ?_⟩
  | refine ⟨_, _, _, _, rfl, (by (first | assumption | exact IsInfo.self (by (first | assumption | exact IsInfo.self (by assumption) | exact IsInfo.upd (by assumption) (by assumption) (by first | assumption | (apply Ne.symm; assumption)))) | exact IsInfo.upd (by (first | assumption | exact IsInfo.self (by assumption) | exact IsInfo.upd (by assumption) (by assumption) (by first | assumption | (apply Ne.symm; assumption)))) (by (first | assumption | exact IsInfo.self (by assumption) | exact IsInfo.upd (by assumption) (by assumption) (by first | assumption | (apply Ne.symm; assumption)))) (by first | assumption | (apply Ne.symm; assumption)))), (by simp), rfl, rfl, ?_⟩)
  refine ⟨1, rfl, Ar.cons (Ex.name rfl (Ar.nil (Ca.def (next_kerned_spec hG (hA.mono (by decide)) (.inl hl) hR hz C hv (st := 0) (by decide) (Nat.zero_le _) fun n _ hn hmk hnm => ?_)))) rfl⟩
  have hU0 : U R cl 0 = U R cl n := U_skip (Nat.zero_le _) hn hmk
  refine Ss.cons (St1.while (KInv w f b g p rl R cl pv mask) (R.length - n)
    ⟨rfl, rfl, rfl, rfl, rfl, n, [], rfl, by omega, fun hlt => ?_, fun he => ?_, Ext.refl, ?_⟩ ?_)
  · rw [hU0, List.nil_append, U_at (List.getElem?_eq_getElem hlt) (hnm _ (List.getElem?_eq_getElem hlt))]
  · rw [hU0, he, U_end]; rfl
  · rw [upd_id (fun n r _ => rfl)]; exact hR
  rintro k m₁ f₁ ⟨hrow, hbuf, hgd, hpr, hmask, a, D, hat, hak, hD1, hD2, hE, hR₁⟩
  have hl₁ : f₁ rl = some (.list (refs R)) := hE _ _ hl (hR.notDs hl fun y e => by cases e)
  have B₁ := B.ext hE (B.off hR).1 (B.off hR).2
  have C₁ := C.ext hR hE
  have hp₁ : f₁ p = some (.pdict xs) := hE _ _ hp (hR.notDs hp fun y e => by cases e)
  have hk₁ := hk.ext hR hE
  have hrefs : refs (upd (allG R pv mask D) R) = refs R := upd_refs _ _
  refine Ts.cmp (Ex.name (v := iv a) hat (Ex.callF hG bi_len (Ar.cons (Ex.name (v := .ref rl) hrow (Ar.nil (Ca.len (.inl hl₁) (by rw [List.length_map]; omega) ?_))))))
  (first
  | ((with_reducible refine' Ss.name ?_ ?h1 ?h2 ?h3); (case h1 => rfl); (case h2 => rfl); (case h3 => rfl))
  | (with_reducible refine' Ss.ret ?_)
  | (with_reducible refine' Ss.ret0 ?_)
  | ((with_reducible refine' Ss.set_xa ?h0 ?_ ?h2); (case h0 => assumption); (case h2 => rfl))
  | ((with_reducible refine' Ss.set_xo ?h0 ?_ ?h2); (case h0 => assumption); (case h2 => rfl))
  | ((with_reducible refine' Ss.set_parent ?h0 ?_ ?h2); (case h0 => assumption); (case h2 => rfl))
  | ((with_reducible refine' Ss.set_un ?h0 ?_ ?h2); (case h0 => assumption); (case h2 => rfl))
  | (with_reducible refine' Ss.cond ?_)
  | (with_reducible refine' Ss.nilA ?_)
  | (with_reducible refine' Ss.nil ?_)
  | (with_reducible refine' Ex.cint ?_)
  | (with_reducible refine' Ex.cstr ?_)
  | (with_reducible refine' Ex.cbool ?_)
  | (with_reducible refine' Ex.cnone ?_)
  | ((with_reducible refine' Ex.name ?h0 ?_ ?h2 ?h3 ?h4); (case h0 => rfl); (case h2 => rfl); (case h3 => rfl); (case h4 => decide))
  | (with_reducible refine' Ex.binop ?_)
  | ((with_reducible refine' Ex.cmp ?_ ?h1); (case h1 => rfl))
  | (with_reducible refine' Ex.neg ?_)
  | ((with_reducible refine' Ex.info ?h0 ?_ ?h2); (case h0 => assumption); (case h2 => rfl))
  | (with_reducible refine' Ex.ite ?_)
  | (with_reducible refine' Ex.or2 ?_)
  | (with_reducible refine' Ex.and2 ?_)
  | (with_reducible refine' Ex.bool1 ?_)
  | ((with_reducible refine' Ts.cmp ?_ ?h1); (case h1 => rfl))
  | (with_reducible refine' Ts.and2 ?_)
  | (with_reducible refine' TrB.and1 ?_)
  | (with_reducible refine' TrB.and0 ?_)
  | (with_reducible refine' TrB.or1 ?_)
  | (with_reducible refine' TrB.or0 ?_)
  | (with_reducible refine' Bo.add ?_)
  | (with_reducible refine' Bo.sub ?_)
  | ((with_reducible refine' Bo.shr ?h0 ?_); (case h0 => decide))
  | (with_reducible refine' Bo.and ?_)
  | (with_reducible refine' Co.eq ?_)
  | (with_reducible refine' Co.ne ?_)
  | (with_reducible refine' Co.lt ?_)
  | (with_reducible refine' Co.le ?_)
  | (with_reducible refine' Co.gt ?_)
  | (with_reducible refine' Co.ge ?_)
  | (with_reducible refine' Co.eqb ?_)
  | (with_reducible refine' Tt.int ?_)
  | (with_reducible refine' Tt.bool ?_)
  | ((with_reducible refine' Ar.cons ?_ ?h1); (case h1 => rfl))
  | (with_reducible refine' Ar.nil ?_)
  | (with_reducible refine' Ex.tup ?_)
  | (with_reducible refine' Ex.list ?_)
  | refine ⟨_, _, _, _, rfl, rfl, (by first | assumption | exact IsInfo.self (by (first | assumption | exact IsInfo.self (by assumption) | exact IsInfo.upd (by assumption) (by assumption) (by first | assumption | (apply Ne.symm; assumption)))) | exact IsInfo.upd (by (first | assumption | exact IsInfo.self (by assumption) | exact IsInfo.upd (by assumption) (by assumption) (by first | assumption | (apply Ne.symm; assumption)))) (by (first | assumption | exact IsInfo.self (by assumption) | exact IsInfo.upd (by assumption) (by assumption) (by first | assumption | (apply Ne.symm; assumption)))) (by first | assumption | (apply Ne.symm; assumption))), ?_⟩
  | refine ⟨_, _, _, _, rfl, (by (first | assumption | exact IsInfo.self (by (first | assumption | exact IsInfo.self (by assumption) | exact IsInfo.upd (by assumption) (by assumption) (by first | assumption | (apply Ne.symm; assumption)))) | exact IsInfo.upd (by (first | assumption | exact IsInfo.self (by assumption) | exact IsInfo.upd (by assumption) (by assumption) (by first | assumption | (apply Ne.symm; assumption)))) (by (first | assumption | exact IsInfo.self (by assumption) | exact IsInfo.upd (by assumption) (by assumption) (by first | assumption | (apply Ne.symm; assumption)))) (by first | assumption | (apply Ne.symm; assumption)))), (by simp), rfl, rfl, ?_⟩)
  refine ⟨_, rfl, ?_⟩
  by_cases hlt : a < R.length
  case neg =>
    rw [if_neg (by simpa using hlt)]
    refine andNext (Ss.nil (h f₁ hE ?_))
    rw [← hD2 (by omega)]; exact hR₁
  rw [if_pos (by simpa using hlt)]
  have hra : R[a]? = some R[a] := List.getElem?_eq_getElem hlt
  generalize R[a] = ra at hra
  have hlen : (upd (allG R pv mask D) R).length = R.length := upd_len _ _
  refine Ss.name (Ex.callD hG df_next (Ar.cons (Ex.name (v := .ref rl) hrow (Ar.cons (Ex.name (v := iv a) hat (Ar.cons (Ex.name (v := .ref g) hgd (Ar.nil ?_))))))))
  refine Ca.def (next_kerned_spec (R := upd (allG R pv mask D) R) hG (hA.mono (by decide)) (.inl (by rw [hrefs]; exact hl₁)) hR₁ (by rw [hlen]; exact hz) C₁ hv (st := a + 1) (by omega) (by omega) fun n hn1 hn2 hmk hnm => ?_)
  rw [hlen] at hn2
  have hmk' : ∀ p r, a + 1 ≤ p → p < n → R[p]? = some r → cl r.2.2.glyph = 3 := fun p r h1 h2 e => by
    have := hmk p _ h1 h2 (by rw [upd_get, e]; rfl)
    rwa [(allG_same ..).glyph] at this
  have hnm' : ∀ r, R[n]? = some r → cl r.2.2.glyph ≠ 3 := fun r e => by
    have := hnm _ (by rw [upd_get, e]; rfl)
    rwa [(allG_same ..).glyph] at this
  have hU : U R cl (a + 1) = U R cl n := U_skip hn1 hn2 hmk'
  have hrow' : mset m₁ "behind" (iv n) "row" = some (.ref rl) := hrow
  have hbuf' : mset m₁ "behind" (iv n) "buffer" = some (.ref b) := hbuf
  have hgd' : mset m₁ "behind" (iv n) "gdef" = some (.ref g) := hgd
  have hpr' : mset m₁ "behind" (iv n) "pairs" = some (.ref p) := hpr
  have hmask' : mset m₁ "behind" (iv n) "mask" = some (iv mask) := hmask
  have hat' : mset m₁ "behind" (iv n) "at" = some (iv a) := hat
  have hbe : mset m₁ "behind" (iv n) "behind" = some (iv n) := rfl
  generalize mset m₁ "behind" (iv n) = m₂ at *
  -- the end of a turn
  have fin : ∀ m₃ f₂ D', m₃ "row" = some (.ref rl) → m₃ "buffer" = some (.ref b) → m₃ "gdef" = some (.ref g) → m₃ "pairs" = some (.ref p) → m₃ "mask" = some (iv mask) →
      (n < R.length → D' = D ++ [(a, n)]) → (n = R.length → D' = D) → Ext (Ds R) f₁ f₂ → Row w f₂ (upd (allG R pv mask D') R) →
      ∃ k', k' < k ∧ KInv w f b g p rl R cl pv mask k' (mset m₃ "at" (iv n)) f₂ := by
    intro m₃ f₂ D' e1 e2 e3 e4 e5 h1 h2 h3 h4
    refine ⟨R.length - n, by omega, e1, e2, e3, e4, e5, n, D', rfl, by omega, fun hn => ?_, fun hn => ?_, hE.trans h3, h4⟩
    · have hr : R[n]? = some R[n] := List.getElem?_eq_getElem hn
      have := hD1 hlt
      rw [hU, U_at hr (hnm' _ hr), prs_two] at this
      rw [h1 hn, List.append_assoc]; exact this
    · have := hD1 hlt
      rw [hU, hn, U_end] at this
      rw [h2 hn]; simpa [prs] using this
  refine Ss.cond (Ts.and2 (Ts.cmp (Ex.name (v := iv n) hbe (Ex.callF hG bi_len (Ar.cons (Ex.name (v := .ref rl) hrow' (Ar.nil (Ca.len (.inl hl₁) (by rw [List.length_map]; omega) ?_))))))))
  (first
  | ((with_reducible refine' Ss.name ?_ ?h1 ?h2 ?h3); (case h1 => rfl); (case h2 => rfl); (case h3 => rfl))
  | (with_reducible refine' Ss.ret ?_)
  | (with_reducible refine' Ss.ret0 ?_)
  | ((with_reducible refine' Ss.set_xa ?h0 ?_ ?h2); (case h0 => assumption); (case h2 => rfl))
  | ((with_reducible refine' Ss.set_xo ?h0 ?_ ?h2); (case h0 => assumption); (case h2 => rfl))
  | ((with_reducible refine' Ss.set_parent ?h0 ?_ ?h2); (case h0 => assumption); (case h2 => rfl))
  | ((with_reducible refine' Ss.set_un ?h0 ?_ ?h2); (case h0 => assumption); (case h2 => rfl))
  | (with_reducible refine' Ss.cond ?_)
  | (with_reducible refine' Ss.nilA ?_)
  | (with_reducible refine' Ss.nil ?_)
  | (with_reducible refine' Ex.cint ?_)
  | (with_reducible refine' Ex.cstr ?_)
  | (with_reducible refine' Ex.cbool ?_)
  | (with_reducible refine' Ex.cnone ?_)
  | ((with_reducible refine' Ex.name ?h0 ?_ ?h2 ?h3 ?h4); (case h0 => rfl); (case h2 => rfl); (case h3 => rfl); (case h4 => decide))
  | (with_reducible refine' Ex.binop ?_)
  | ((with_reducible refine' Ex.cmp ?_ ?h1); (case h1 => rfl))
  | (with_reducible refine' Ex.neg ?_)
  | ((with_reducible refine' Ex.info ?h0 ?_ ?h2); (case h0 => assumption); (case h2 => rfl))
  | (with_reducible refine' Ex.ite ?_)
  | (with_reducible refine' Ex.or2 ?_)
  | (with_reducible refine' Ex.and2 ?_)
  | (with_reducible refine' Ex.bool1 ?_)
  | ((with_reducible refine' Ts.cmp ?_ ?h1); (case h1 => rfl))
  | (with_reducible refine' Ts.and2 ?_)
  | (with_reducible refine' TrB.and1 ?_)
  | (with_reducible refine' TrB.and0 ?_)
  | (with_reducible refine' TrB.or1 ?_)
  | (with_reducible refine' TrB.or0 ?_)
  | (with_reducible refine' Bo.add ?_)
  | (with_reducible refine' Bo.sub ?_)
  | ((with_reducible refine' Bo.shr ?h0 ?_); (case h0 => decide))
  | (with_reducible refine' Bo.and ?_)
  | (with_reducible refine' Co.eq ?_)
  | (with_reducible refine' Co.ne ?_)
  | (with_reducible refine' Co.lt ?_)
  | (with_reducible refine' Co.le ?_)
  | (with_reducible refine' Co.gt ?_)
  | (with_reducible refine' Co.ge ?_)
  | (with_reducible refine' Co.eqb ?_)
  | (with_reducible refine' Tt.int ?_)
  | (with_reducible refine' Tt.bool ?_)
  | ((with_reducible refine' Ar.cons ?_ ?h1); (case h1 => rfl))
  | (with_reducible refine' Ar.nil ?_)
  | (with_reducible refine' Ex.tup ?_)
  | (with_reducible refine' Ex.list ?_)
  | refine ⟨_, _, _, _, rfl, rfl, (by first | assumption | exact IsInfo.self (by (first | assumption | exact IsInfo.self (by assumption) | exact IsInfo.upd (by assumption) (by assumption) (by first | assumption | (apply Ne.symm; assumption)))) | exact IsInfo.upd (by (first | assumption | exact IsInfo.self (by assumption) | exact IsInfo.upd (by assumption) (by assumption) (by first | assumption | (apply Ne.symm; assumption)))) (by (first | assumption | exact IsInfo.self (by assumption) | exact IsInfo.upd (by assumption) (by assumption) (by first | assumption | (apply Ne.symm; assumption)))) (by first | assumption | (apply Ne.symm; assumption))), ?_⟩
  | refine ⟨_, _, _, _, rfl, (by (first | assumption | exact IsInfo.self (by (first | assumption | exact IsInfo.self (by assumption) | exact IsInfo.upd (by assumption) (by assumption) (by first | assumption | (apply Ne.symm; assumption)))) | exact IsInfo.upd (by (first | assumption | exact IsInfo.self (by assumption) | exact IsInfo.upd (by assumption) (by assumption) (by first | assumption | (apply Ne.symm; assumption)))) (by (first | assumption | exact IsInfo.self (by assumption) | exact IsInfo.upd (by assumption) (by assumption) (by first | assumption | (apply Ne.symm; assumption)))) (by first | assumption | (apply Ne.symm; assumption)))), (by simp), rfl, rfl, ?_⟩)
  refine ⟨_, rfl, ?_⟩
  by_cases hn : n < R.length
  case neg =>
    rw [if_neg (by simpa using hn), if_neg (by decide)]
    exact Ss.nilA (Ss.name (Ex.name (v := iv n) hbe (Ss.nil ⟨rfl, fin m₂ f₁ D hrow' hbuf' hgd' hpr' hmask' (fun q => absurd q hn) (fun _ => rfl) Ext.refl hR₁⟩)))
  rw [if_pos (by simpa using hn)]
  have hrb : R[n]? = some R[n] := List.getElem?_eq_getElem hn
  generalize R[n] = rb at hrb
  have noop : worth R pv mask a n = 0 → upd (allG R pv mask (D ++ [(a, n)])) R = upd (allG R pv mask D) R := fun q => upd_ext fun k r _ => by rw [allG_snoc]; unfold stepG; rw [if_pos q]
  have hw : worth R pv mask a n = if Builtin.bitAnd ra.2.2.mask mask ≠ 0 ∧ Builtin.bitAnd rb.2.2.mask mask ≠ 0 then pv ra.2.2.glyph rb.2.2.glyph else 0 := by unfold worth; rw [hra, hrb]
  refine TrB.and1 (Ts.cmp (Ex.binop (Ex.rowA (u := iv ra.2.2.mask) hG hrow' hat' (.inl hl₁) hz hR₁ hra (by simp) (by rw [← (allG_same R pv mask D a ra.2.2).mask]; rfl) rfl (Ex.name (v := iv mask) hmask' ?_))))
  (first
  | ((with_reducible refine' Ss.name ?_ ?h1 ?h2 ?h3); (case h1 => rfl); (case h2 => rfl); (case h3 => rfl))
  | (with_reducible refine' Ss.ret ?_)
  | (with_reducible refine' Ss.ret0 ?_)
  | ((with_reducible refine' Ss.set_xa ?h0 ?_ ?h2); (case h0 => assumption); (case h2 => rfl))
  | ((with_reducible refine' Ss.set_xo ?h0 ?_ ?h2); (case h0 => assumption); (case h2 => rfl))
  | ((with_reducible refine' Ss.set_parent ?h0 ?_ ?h2); (case h0 => assumption); (case h2 => rfl))
  | ((with_reducible refine' Ss.set_un ?h0 ?_ ?h2); (case h0 => assumption); (case h2 => rfl))
  | (with_reducible refine' Ss.cond ?_)
  | (with_reducible refine' Ss.nilA ?_)
  | (with_reducible refine' Ss.nil ?_)
  | (with_reducible refine' Ex.cint ?_)
  | (with_reducible refine' Ex.cstr ?_)
  | (with_reducible refine' Ex.cbool ?_)
  | (with_reducible refine' Ex.cnone ?_)
  | ((with_reducible refine' Ex.name ?h0 ?_ ?h2 ?h3 ?h4); (case h0 => rfl); (case h2 => rfl); (case h3 => rfl); (case h4 => decide))
  | (with_reducible refine' Ex.binop ?_)
  | ((with_reducible refine' Ex.cmp ?_ ?h1); (case h1 => rfl))
  | (with_reducible refine' Ex.neg ?_)
  | ((with_reducible refine' Ex.info ?h0 ?_ ?h2); (case h0 => assumption); (case h2 => rfl))
  | (with_reducible refine' Ex.ite ?_)
  | (with_reducible refine' Ex.or2 ?_)
  | (with_reducible refine' Ex.and2 ?_)
  | (with_reducible refine' Ex.bool1 ?_)
  | ((with_reducible refine' Ts.cmp ?_ ?h1); (case h1 => rfl))
  | (with_reducible refine' Ts.and2 ?_)
  | (with_reducible refine' TrB.and1 ?_)
  | (with_reducible refine' TrB.and0 ?_)
  | (with_reducible refine' TrB.or1 ?_)
  | (with_reducible refine' TrB.or0 ?_)
  | (with_reducible refine' Bo.add ?_)
  | (with_reducible refine' Bo.sub ?_)
  | ((with_reducible refine' Bo.shr ?h0 ?_); (case h0 => decide))
  | (with_reducible refine' Bo.and ?_)
  | (with_reducible refine' Co.eq ?_)
  | (with_reducible refine' Co.ne ?_)
  | (with_reducible refine' Co.lt ?_)
  | (with_reducible refine' Co.le ?_)
  | (with_reducible refine' Co.gt ?_)
  | (with_reducible refine' Co.ge ?_)
  | (with_reducible refine' Co.eqb ?_)
  | (with_reducible refine' Tt.int ?_)
  | (with_reducible refine' Tt.bool ?_)
  | ((with_reducible refine' Ar.cons ?_ ?h1); (case h1 => rfl))
  | (with_reducible refine' Ar.nil ?_)
  | (with_reducible refine' Ex.tup ?_)
  | (with_reducible refine' Ex.list ?_)
  | refine ⟨_, _, _, _, rfl, rfl, (by first | assumption | exact IsInfo.self (by (first | assumption | exact IsInfo.self (by assumption) | exact IsInfo.upd (by assumption) (by assumption) (by first | assumption | (apply Ne.symm; assumption)))) | exact IsInfo.upd (by (first | assumption | exact IsInfo.self (by assumption) | exact IsInfo.upd (by assumption) (by assumption) (by first | assumption | (apply Ne.symm; assumption)))) (by (first | assumption | exact IsInfo.self (by assumption) | exact IsInfo.upd (by assumption) (by assumption) (by first | assumption | (apply Ne.symm; assumption)))) (by first | assumption | (apply Ne.symm; assumption))), ?_⟩
  | refine ⟨_, _, _, _, rfl, (by (first | assumption | exact IsInfo.self (by (first | assumption | exact IsInfo.self (by assumption) | exact IsInfo.upd (by assumption) (by assumption) (by first | assumption | (apply Ne.symm; assumption)))) | exact IsInfo.upd (by (first | assumption | exact IsInfo.self (by assumption) | exact IsInfo.upd (by assumption) (by assumption) (by first | assumption | (apply Ne.symm; assumption)))) (by (first | assumption | exact IsInfo.self (by assumption) | exact IsInfo.upd (by assumption) (by assumption) (by first | assumption | (apply Ne.symm; assumption)))) (by first | assumption | (apply Ne.symm; assumption)))), (by simp), rfl, rfl, ?_⟩)
  (first
  | ((with_reducible refine' Ss.name ?_ ?h1 ?h2 ?h3); (case h1 => rfl); (case h2 => rfl); (case h3 => rfl))
  | (with_reducible refine' Ss.ret ?_)
  | (with_reducible refine' Ss.ret0 ?_)
  | ((with_reducible refine' Ss.set_xa ?h0 ?_ ?h2); (case h0 => assumption); (case h2 => rfl))
  | ((with_reducible refine' Ss.set_xo ?h0 ?_ ?h2); (case h0 => assumption); (case h2 => rfl))
  | ((with_reducible refine' Ss.set_parent ?h0 ?_ ?h2); (case h0 => assumption); (case h2 => rfl))
  | ((with_reducible refine' Ss.set_un ?h0 ?_ ?h2); (case h0 => assumption); (case h2 => rfl))
  | (with_reducible refine' Ss.cond ?_)
  | (with_reducible refine' Ss.nilA ?_)
  | (with_reducible refine' Ss.nil ?_)
  | (with_reducible refine' Ex.cint ?_)
  | (with_reducible refine' Ex.cstr ?_)
  | (with_reducible refine' Ex.cbool ?_)
  | (with_reducible refine' Ex.cnone ?_)
  | ((with_reducible refine' Ex.name ?h0 ?_ ?h2 ?h3 ?h4); (case h0 => rfl); (case h2 => rfl); (case h3 => rfl); (case h4 => decide))
  | (with_reducible refine' Ex.binop ?_)
  | ((with_reducible refine' Ex.cmp ?_ ?h1); (case h1 => rfl))
  | (with_reducible refine' Ex.neg ?_)
  | ((with_reducible refine' Ex.info ?h0 ?_ ?h2); (case h0 => assumption); (case h2 => rfl))
  | (with_reducible refine' Ex.ite ?_)
  | (with_reducible refine' Ex.or2 ?_)
  | (with_reducible refine' Ex.and2 ?_)
  | (with_reducible refine' Ex.bool1 ?_)
  | ((with_reducible refine' Ts.cmp ?_ ?h1); (case h1 => rfl))
  | (with_reducible refine' Ts.and2 ?_)
  | (with_reducible refine' TrB.and1 ?_)
  | (with_reducible refine' TrB.and0 ?_)
  | (with_reducible refine' TrB.or1 ?_)
  | (with_reducible refine' TrB.or0 ?_)
  | (with_reducible refine' Bo.add ?_)
  | (with_reducible refine' Bo.sub ?_)
  | ((with_reducible refine' Bo.shr ?h0 ?_); (case h0 => decide))
  | (with_reducible refine' Bo.and ?_)
  | (with_reducible refine' Co.eq ?_)
  | (with_reducible refine' Co.ne ?_)
  | (with_reducible refine' Co.lt ?_)
  | (with_reducible refine' Co.le ?_)
  | (with_reducible refine' Co.gt ?_)
  | (with_reducible refine' Co.ge ?_)
  | (with_reducible refine' Co.eqb ?_)
  | (with_reducible refine' Tt.int ?_)
  | (with_reducible refine' Tt.bool ?_)
  | ((with_reducible refine' Ar.cons ?_ ?h1); (case h1 => rfl))
  | (with_reducible refine' Ar.nil ?_)
  | (with_reducible refine' Ex.tup ?_)
  | (with_reducible refine' Ex.list ?_)
  | refine ⟨_, _, _, _, rfl, rfl, (by first | assumption | exact IsInfo.self (by (first | assumption | exact IsInfo.self (by assumption) | exact IsInfo.upd (by assumption) (by assumption) (by first | assumption | (apply Ne.symm; assumption)))) | exact IsInfo.upd (by (first | assumption | exact IsInfo.self (by assumption) | exact IsInfo.upd (by assumption) (by assumption) (by first | assumption | (apply Ne.symm; assumption)))) (by (first | assumption | exact IsInfo.self (by assumption) | exact IsInfo.upd (by assumption) (by assumption) (by first | assumption | (apply Ne.symm; assumption)))) (by first | assumption | (apply Ne.symm; assumption))), ?_⟩
  | refine ⟨_, _, _, _, rfl, (by (first | assumption | exact IsInfo.self (by (first | assumption | exact IsInfo.self (by assumption) | exact IsInfo.upd (by assumption) (by assumption) (by first | assumption | (apply Ne.symm; assumption)))) | exact IsInfo.upd (by (first | assumption | exact IsInfo.self (by assumption) | exact IsInfo.upd (by assumption) (by assumption) (by first | assumption | (apply Ne.symm; assumption)))) (by (first | assumption | exact IsInfo.self (by assumption) | exact IsInfo.upd (by assumption) (by assumption) (by first | assumption | (apply Ne.symm; assumption)))) (by first | assumption | (apply Ne.symm; assumption)))), (by simp), rfl, rfl, ?_⟩)
  (first
  | ((with_reducible refine' Ss.name ?_ ?h1 ?h2 ?h3); (case h1 => rfl); (case h2 => rfl); (case h3 => rfl))
  | (with_reducible refine' Ss.ret ?_)
  | (with_reducible refine' Ss.ret0 ?_)
  | ((with_reducible refine' Ss.set_xa ?h0 ?_ ?h2); (case h0 => assumption); (case h2 => rfl))
  | ((with_reducible refine' Ss.set_xo ?h0 ?_ ?h2); (case h0 => assumption); (case h2 => rfl))
  | ((with_reducible refine' Ss.set_parent ?h0 ?_ ?h2); (case h0 => assumption); (case h2 => rfl))
  | ((with_reducible refine' Ss.set_un ?h0 ?_ ?h2); (case h0 => assumption); (case h2 => rfl))
  | (with_reducible refine' Ss.cond ?_)
  | (with_reducible refine' Ss.nilA ?_)
  | (with_reducible refine' Ss.nil ?_)
  | (with_reducible refine' Ex.cint ?_)
  | (with_reducible refine' Ex.cstr ?_)
  | (with_reducible refine' Ex.cbool ?_)
  | (with_reducible refine' Ex.cnone ?_)
  | ((with_reducible refine' Ex.name ?h0 ?_ ?h2 ?h3 ?h4); (case h0 => rfl); (case h2 => rfl); (case h3 => rfl); (case h4 => decide))
  | (with_reducible refine' Ex.binop ?_)
  | ((with_reducible refine' Ex.cmp ?_ ?h1); (case h1 => rfl))
  | (with_reducible refine' Ex.neg ?_)
  | ((with_reducible refine' Ex.info ?h0 ?_ ?h2); (case h0 => assumption); (case h2 => rfl))
  | (with_reducible refine' Ex.ite ?_)
  | (with_reducible refine' Ex.or2 ?_)
  | (with_reducible refine' Ex.and2 ?_)
  | (with_reducible refine' Ex.bool1 ?_)
  | ((with_reducible refine' Ts.cmp ?_ ?h1); (case h1 => rfl))
  | (with_reducible refine' Ts.and2 ?_)
  | (with_reducible refine' TrB.and1 ?_)
  | (with_reducible refine' TrB.and0 ?_)
  | (with_reducible refine' TrB.or1 ?_)
  | (with_reducible refine' TrB.or0 ?_)
  | (with_reducible refine' Bo.add ?_)
  | (with_reducible refine' Bo.sub ?_)
  | ((with_reducible refine' Bo.shr ?h0 ?_); (case h0 => decide))
  | (with_reducible refine' Bo.and ?_)
  | (with_reducible refine' Co.eq ?_)
  | (with_reducible refine' Co.ne ?_)
  | (with_reducible refine' Co.lt ?_)
  | (with_reducible refine' Co.le ?_)
  | (with_reducible refine' Co.gt ?_)
  | (with_reducible refine' Co.ge ?_)
  | (with_reducible refine' Co.eqb ?_)
  | (with_reducible refine' Tt.int ?_)
  | (with_reducible refine' Tt.bool ?_)
  | ((with_reducible refine' Ar.cons ?_ ?h1); (case h1 => rfl))
  | (with_reducible refine' Ar.nil ?_)
  | (with_reducible refine' Ex.tup ?_)
  | (with_reducible refine' Ex.list ?_)
  | refine ⟨_, _, _, _, rfl, rfl, (by first | assumption | exact IsInfo.self (by (first | assumption | exact IsInfo.self (by assumption) | exact IsInfo.upd (by assumption) (by assumption) (by first | assumption | (apply Ne.symm; assumption)))) | exact IsInfo.upd (by (first | assumption | exact IsInfo.self (by assumption) | exact IsInfo.upd (by assumption) (by assumption) (by first | assumption | (apply Ne.symm; assumption)))) (by (first | assumption | exact IsInfo.self (by assumption) | exact IsInfo.upd (by assumption) (by assumption) (by first | assumption | (apply Ne.symm; assumption)))) (by first | assumption | (apply Ne.symm; assumption))), ?_⟩
  | refine ⟨_, _, _, _, rfl, (by (first | assumption | exact IsInfo.self (by (first | assumption | exact IsInfo.self (by assumption) | exact IsInfo.upd (by assumption) (by assumption) (by first | assumption | (apply Ne.symm; assumption)))) | exact IsInfo.upd (by (first | assumption | exact IsInfo.self (by assumption) | exact IsInfo.upd (by assumption) (by assumption) (by first | assumption | (apply Ne.symm; assumption)))) (by (first | assumption | exact IsInfo.self (by assumption) | exact IsInfo.upd (by assumption) (by assumption) (by first | assumption | (apply Ne.symm; assumption)))) (by first | assumption | (apply Ne.symm; assumption)))), (by simp), rfl, rfl, ?_⟩)
  refine ⟨_, rfl, ?_⟩
  by_cases hm1 : Builtin.bitAnd ra.2.2.mask mask = 0
  · rw [if_neg (by simpa using hm1), if_neg (by decide)]
    exact Ss.nilA (Ss.name (Ex.name (v := iv n) hbe (Ss.nil ⟨rfl, fin m₂ f₁ _ hrow' hbuf' hgd' hpr' hmask' (fun _ => rfl) (fun q => absurd q (by omega)) Ext.refl (by rw [noop (by rw [hw, if_neg (by simp [hm1])])]; exact hR₁)⟩)))
  rw [if_pos (by simpa using hm1)]
  refine TrB.and1 (Ts.cmp (Ex.binop (Ex.rowA (u := iv rb.2.2.mask) hG hrow' hbe (.inl hl₁) hz hR₁ hrb (by simp) (by rw [← (allG_same R pv mask D n rb.2.2).mask]; rfl) rfl (Ex.name (v := iv mask) hmask' ?_))))
  (first
  | ((with_reducible refine' Ss.name ?_ ?h1 ?h2 ?h3); (case h1 => rfl); (case h2 => rfl); (case h3 => rfl))
  | (with_reducible refine' Ss.ret ?_)
  | (with_reducible refine' Ss.ret0 ?_)
  | ((with_reducible refine' Ss.set_xa ?h0 ?_ ?h2); (case h0 => assumption); (case h2 => rfl))
  | ((with_reducible refine' Ss.set_xo ?h0 ?_ ?h2); (case h0 => assumption); (case h2 => rfl))
  | ((with_reducible refine' Ss.set_parent ?h0 ?_ ?h2); (case h0 => assumption); (case h2 => rfl))
  | ((with_reducible refine' Ss.set_un ?h0 ?_ ?h2); (case h0 => assumption); (case h2 => rfl))
  | (with_reducible refine' Ss.cond ?_)
  | (with_reducible refine' Ss.nilA ?_)
  | (with_reducible refine' Ss.nil ?_)
  | (with_reducible refine' Ex.cint ?_)
  | (with_reducible refine' Ex.cstr ?_)
  | (with_reducible refine' Ex.cbool ?_)
  | (with_reducible refine' Ex.cnone ?_)
  | ((with_reducible refine' Ex.name ?h0 ?_ ?h2 ?h3 ?h4); (case h0 => rfl); (case h2 => rfl); (case h3 => rfl); (case h4 => decide))
  | (with_reducible refine' Ex.binop ?_)
  | ((with_reducible refine' Ex.cmp ?_ ?h1); (case h1 => rfl))
  | (with_reducible refine' Ex.neg ?_)
  | ((with_reducible refine' Ex.info ?h0 ?_ ?h2); (case h0 => assumption); (case h2 => rfl))
  | (with_reducible refine' Ex.ite ?_)
  | (with_reducible refine' Ex.or2 ?_)
  | (with_reducible refine' Ex.and2 ?_)
  | (with_reducible refine' Ex.bool1 ?_)
  | ((with_reducible refine' Ts.cmp ?_ ?h1); (case h1 => rfl))
  | (with_reducible refine' Ts.and2 ?_)
  | (with_reducible refine' TrB.and1 ?_)
  | (with_reducible refine' TrB.and0 ?_)
  | (with_reducible refine' TrB.or1 ?_)
  | (with_reducible refine' TrB.or0 ?_)
  | (with_reducible refine' Bo.add ?_)
  | (with_reducible refine' Bo.sub ?_)
  | ((with_reducible refine' Bo.shr ?h0 ?_); (case h0 => decide))
  | (with_reducible refine' Bo.and ?_)
  | (with_reducible refine' Co.eq ?_)
  | (with_reducible refine' Co.ne ?_)
  | (with_reducible refine' Co.lt ?_)
  | (with_reducible refine' Co.le ?_)
  | (with_reducible refine' Co.gt ?_)
  | (with_reducible refine' Co.ge ?_)
  | (with_reducible refine' Co.eqb ?_)
  | (with_reducible refine' Tt.int ?_)
  | (with_reducible refine' Tt.bool ?_)
  | ((with_reducible refine' Ar.cons ?_ ?h1); (case h1 => rfl))
  | (with_reducible refine' Ar.nil ?_)
  | (with_reducible refine' Ex.tup ?_)
  | (with_reducible refine' Ex.list ?_)
  | refine ⟨_, _, _, _, rfl, rfl, (by first | assumption | exact IsInfo.self (by (first | assumption | exact IsInfo.self (by assumption) | exact IsInfo.upd (by assumption) (by assumption) (by first | assumption | (apply Ne.symm; assumption)))) | exact IsInfo.upd (by (first | assumption | exact IsInfo.self (by assumption) | exact IsInfo.upd (by assumption) (by assumption) (by first | assumption | (apply Ne.symm; assumption)))) (by (first | assumption | exact IsInfo.self (by assumption) | exact IsInfo.upd (by assumption) (by assumption) (by first | assumption | (apply Ne.symm; assumption)))) (by first | assumption | (apply Ne.symm; assumption))), ?_⟩
  | refine ⟨_, _, _, _, rfl, (by (first | assumption | exact IsInfo.self (by (first | assumption | exact IsInfo.self (by assumption) | exact IsInfo.upd (by assumption) (by assumption) (by first | assumption | (apply Ne.symm; assumption)))) | exact IsInfo.upd (by (first | assumption | exact IsInfo.self (by assumption) | exact IsInfo.upd (by assumption) (by assumption) (by first | assumption | (apply Ne.symm; assumption)))) (by (first | assumption | exact IsInfo.self (by assumption) | exact IsInfo.upd (by assumption) (by assumption) (by first | assumption | (apply Ne.symm; assumption)))) (by first | assumption | (apply Ne.symm; assumption)))), (by simp), rfl, rfl, ?_⟩)
  (first
  | ((with_reducible refine' Ss.name ?_ ?h1 ?h2 ?h3); (case h1 => rfl); (case h2 => rfl); (case h3 => rfl))
  | (with_reducible refine' Ss.ret ?_)
  | (with_reducible refine' Ss.ret0 ?_)
  | ((with_reducible refine' Ss.set_xa ?h0 ?_ ?h2); (case h0 => assumption); (case h2 => rfl))
  | ((with_reducible refine' Ss.set_xo ?h0 ?_ ?h2); (case h0 => assumption); (case h2 => rfl))
  | ((with_reducible refine' Ss.set_parent ?h0 ?_ ?h2); (case h0 => assumption); (case h2 => rfl))
  | ((with_reducible refine' Ss.set_un ?h0 ?_ ?h2); (case h0 => assumption); (case h2 => rfl))
  | (with_reducible refine' Ss.cond ?_)
  | (with_reducible refine' Ss.nilA ?_)
  | (with_reducible refine' Ss.nil ?_)
  | (with_reducible refine' Ex.cint ?_)
  | (with_reducible refine' Ex.cstr ?_)
  | (with_reducible refine' Ex.cbool ?_)
  | (with_reducible refine' Ex.cnone ?_)
  | ((with_reducible refine' Ex.name ?h0 ?_ ?h2 ?h3 ?h4); (case h0 => rfl); (case h2 => rfl); (case h3 => rfl); (case h4 => decide))
  | (with_reducible refine' Ex.binop ?_)
  | ((with_reducible refine' Ex.cmp ?_ ?h1); (case h1 => rfl))
  | (with_reducible refine' Ex.neg ?_)
  | ((with_reducible refine' Ex.info ?h0 ?_ ?h2); (case h0 => assumption); (case h2 => rfl))
  | (with_reducible refine' Ex.ite ?_)
  | (with_reducible refine' Ex.or2 ?_)
  | (with_reducible refine' Ex.and2 ?_)
  | (with_reducible refine' Ex.bool1 ?_)
  | ((with_reducible refine' Ts.cmp ?_ ?h1); (case h1 => rfl))
  | (with_reducible refine' Ts.and2 ?_)
  | (with_reducible refine' TrB.and1 ?_)
  | (with_reducible refine' TrB.and0 ?_)
  | (with_reducible refine' TrB.or1 ?_)
  | (with_reducible refine' TrB.or0 ?_)
  | (with_reducible refine' Bo.add ?_)
  | (with_reducible refine' Bo.sub ?_)
  | ((with_reducible refine' Bo.shr ?h0 ?_); (case h0 => decide))
  | (with_reducible refine' Bo.and ?_)
  | (with_reducible refine' Co.eq ?_)
  | (with_reducible refine' Co.ne ?_)
  | (with_reducible refine' Co.lt ?_)
  | (with_reducible refine' Co.le ?_)
  | (with_reducible refine' Co.gt ?_)
  | (with_reducible refine' Co.ge ?_)
  | (with_reducible refine' Co.eqb ?_)
  | (with_reducible refine' Tt.int ?_)
  | (with_reducible refine' Tt.bool ?_)
  | ((with_reducible refine' Ar.cons ?_ ?h1); (case h1 => rfl))
  | (with_reducible refine' Ar.nil ?_)
  | (with_reducible refine' Ex.tup ?_)
  | (with_reducible refine' Ex.list ?_)
  | refine ⟨_, _, _, _, rfl, rfl, (by first | assumption | exact IsInfo.self (by (first | assumption | exact IsInfo.self (by assumption) | exact IsInfo.upd (by assumption) (by assumption) (by first | assumption | (apply Ne.symm; assumption)))) | exact IsInfo.upd (by (first | assumption | exact IsInfo.self (by assumption) | exact IsInfo.upd (by assumption) (by assumption) (by first | assumption | (apply Ne.symm; assumption)))) (by (first | assumption | exact IsInfo.self (by assumption) | exact IsInfo.upd (by assumption) (by assumption) (by first | assumption | (apply Ne.symm; assumption)))) (by first | assumption | (apply Ne.symm; assumption))), ?_⟩
  | refine ⟨_, _, _, _, rfl, (by (first | assumption | exact IsInfo.self (by (first | assumption | exact IsInfo.self (by assumption) | exact IsInfo.upd (by assumption) (by assumption) (by first | assumption | (apply Ne.symm; assumption)))) | exact IsInfo.upd (by (first | assumption | exact IsInfo.self (by assumption) | exact IsInfo.upd (by assumption) (by assumption) (by first | assumption | (apply Ne.symm; assumption)))) (by (first | assumption | exact IsInfo.self (by assumption) | exact IsInfo.upd (by assumption) (by assumption) (by first | assumption | (apply Ne.symm; assumption)))) (by first | assumption | (apply Ne.symm; assumption)))), (by simp), rfl, rfl, ?_⟩)
  (first
  | ((with_reducible refine' Ss.name ?_ ?h1 ?h2 ?h3); (case h1 => rfl); (case h2 => rfl); (case h3 => rfl))
  | (with_reducible refine' Ss.ret ?_)
  | (with_reducible refine' Ss.ret0 ?_)
  | ((with_reducible refine' Ss.set_xa ?h0 ?_ ?h2); (case h0 => assumption); (case h2 => rfl))
  | ((with_reducible refine' Ss.set_xo ?h0 ?_ ?h2); (case h0 => assumption); (case h2 => rfl))
  | ((with_reducible refine' Ss.set_parent ?h0 ?_ ?h2); (case h0 => assumption); (case h2 => rfl))
  | ((with_reducible refine' Ss.set_un ?h0 ?_ ?h2); (case h0 => assumption); (case h2 => rfl))
  | (with_reducible refine' Ss.cond ?_)
  | (with_reducible refine' Ss.nilA ?_)
  | (with_reducible refine' Ss.nil ?_)
  | (with_reducible refine' Ex.cint ?_)
  | (with_reducible refine' Ex.cstr ?_)
  | (with_reducible refine' Ex.cbool ?_)
  | (with_reducible refine' Ex.cnone ?_)
  | ((with_reducible refine' Ex.name ?h0 ?_ ?h2 ?h3 ?h4); (case h0 => rfl); (case h2 => rfl); (case h3 => rfl); (case h4 => decide))
  | (with_reducible refine' Ex.binop ?_)
  | ((with_reducible refine' Ex.cmp ?_ ?h1); (case h1 => rfl))
  | (with_reducible refine' Ex.neg ?_)
  | ((with_reducible refine' Ex.info ?h0 ?_ ?h2); (case h0 => assumption); (case h2 => rfl))
  | (with_reducible refine' Ex.ite ?_)
  | (with_reducible refine' Ex.or2 ?_)
  | (with_reducible refine' Ex.and2 ?_)
  | (with_reducible refine' Ex.bool1 ?_)
  | ((with_reducible refine' Ts.cmp ?_ ?h1); (case h1 => rfl))
  | (with_reducible refine' Ts.and2 ?_)
  | (with_reducible refine' TrB.and1 ?_)
  | (with_reducible refine' TrB.and0 ?_)
  | (with_reducible refine' TrB.or1 ?_)
  | (with_reducible refine' TrB.or0 ?_)
  | (with_reducible refine' Bo.add ?_)
  | (with_reducible refine' Bo.sub ?_)
  | ((with_reducible refine' Bo.shr ?h0 ?_); (case h0 => decide))
  | (with_reducible refine' Bo.and ?_)
  | (with_reducible refine' Co.eq ?_)
  | (with_reducible refine' Co.ne ?_)
  | (with_reducible refine' Co.lt ?_)
  | (with_reducible refine' Co.le ?_)
  | (with_reducible refine' Co.gt ?_)
  | (with_reducible refine' Co.ge ?_)
  | (with_reducible refine' Co.eqb ?_)
  | (with_reducible refine' Tt.int ?_)
  | (with_reducible refine' Tt.bool ?_)
  | ((with_reducible refine' Ar.cons ?_ ?h1); (case h1 => rfl))
  | (with_reducible refine' Ar.nil ?_)
  | (with_reducible refine' Ex.tup ?_)
  | (with_reducible refine' Ex.list ?_)
  | refine ⟨_, _, _, _, rfl, rfl, (by first | assumption | exact IsInfo.self (by (first | assumption | exact IsInfo.self (by assumption) | exact IsInfo.upd (by assumption) (by assumption) (by first | assumption | (apply Ne.symm; assumption)))) | exact IsInfo.upd (by (first | assumption | exact IsInfo.self (by assumption) | exact IsInfo.upd (by assumption) (by assumption) (by first | assumption | (apply Ne.symm; assumption)))) (by (first | assumption | exact IsInfo.self (by assumption) | exact IsInfo.upd (by assumption) (by assumption) (by first | assumption | (apply Ne.symm; assumption)))) (by first | assumption | (apply Ne.symm; assumption))), ?_⟩
  | refine ⟨_, _, _, _, rfl, (by (first | assumption | exact IsInfo.self (by (first | assumption | exact IsInfo.self (by assumption) | exact IsInfo.upd (by assumption) (by assumption) (by first | assumption | (apply Ne.symm; assumption)))) | exact IsInfo.upd (by (first | assumption | exact IsInfo.self (by assumption) | exact IsInfo.upd (by assumption) (by assumption) (by first | assumption | (apply Ne.symm; assumption)))) (by (first | assumption | exact IsInfo.self (by assumption) | exact IsInfo.upd (by assumption) (by assumption) (by first | assumption | (apply Ne.symm; assumption)))) (by first | assumption | (apply Ne.symm; assumption)))), (by simp), rfl, rfl, ?_⟩)
  refine ⟨_, rfl, ?_⟩
  by_cases hm2 : Builtin.bitAnd rb.2.2.mask mask = 0
  · rw [if_neg (by simpa using hm2), if_neg (by decide)]
    exact Ss.nilA (Ss.name (Ex.name (v := iv n) hbe (Ss.nil ⟨rfl, fin m₂ f₁ _ hrow' hbuf' hgd' hpr' hmask' (fun _ => rfl) (fun q => absurd q (by omega)) Ext.refl (by rw [noop (by rw [hw, if_neg (by simp [hm2])])]; exact hR₁)⟩)))
  rw [if_pos (by simpa using hm2)]
  rw [if_pos ⟨hm1, hm2⟩] at hw
  refine TrB.and0 ?_
  rw [if_pos rfl]
  refine Ss.name (Ex.meth hG ?_ (pl := ?pl) (hc := ?hc)); (case hc => rfl)
  refine Ex.name (v := .ref p) hpr' ⟨_, _, keep_builtin, meth_getP hp₁, ?_⟩
  refine Ar.cons (Ex.tup (Ar.cons (Ex.rowA (u := iv ra.2.2.glyph) hG hrow' hat' (.inl hl₁) hz hR₁ hra (by simp) (by rw [← (allG_same R pv mask D a ra.2.2).glyph]; rfl) rfl
    (Ar.cons (Ex.rowA (u := iv rb.2.2.glyph) hG hrow' hbe (.inl hl₁) hz hR₁ hrb (by simp) (by rw [← (allG_same R pv mask D n rb.2.2).glyph]; rfl) rfl (Ar.nil ⟨by simp, fun T hT => ?_⟩))))))
  (first
  | ((with_reducible refine' Ss.name ?_ ?h1 ?h2 ?h3); (case h1 => rfl); (case h2 => rfl); (case h3 => rfl))
  | (with_reducible refine' Ss.ret ?_)
  | (with_reducible refine' Ss.ret0 ?_)
  | ((with_reducible refine' Ss.set_xa ?h0 ?_ ?h2); (case h0 => assumption); (case h2 => rfl))
  | ((with_reducible refine' Ss.set_xo ?h0 ?_ ?h2); (case h0 => assumption); (case h2 => rfl))
  | ((with_reducible refine' Ss.set_parent ?h0 ?_ ?h2); (case h0 => assumption); (case h2 => rfl))
  | ((with_reducible refine' Ss.set_un ?h0 ?_ ?h2); (case h0 => assumption); (case h2 => rfl))
  | (with_reducible refine' Ss.cond ?_)
  | (with_reducible refine' Ss.nilA ?_)
  | (with_reducible refine' Ss.nil ?_)
  | (with_reducible refine' Ex.cint ?_)
  | (with_reducible refine' Ex.cstr ?_)
  | (with_reducible refine' Ex.cbool ?_)
  | (with_reducible refine' Ex.cnone ?_)
  | ((with_reducible refine' Ex.name ?h0 ?_ ?h2 ?h3 ?h4); (case h0 => rfl); (case h2 => rfl); (case h3 => rfl); (case h4 => decide))
  | (with_reducible refine' Ex.binop ?_)
  | ((with_reducible refine' Ex.cmp ?_ ?h1); (case h1 => rfl))
  | (with_reducible refine' Ex.neg ?_)
  | ((with_reducible refine' Ex.info ?h0 ?_ ?h2); (case h0 => assumption); (case h2 => rfl))
  | (with_reducible refine' Ex.ite ?_)
  | (with_reducible refine' Ex.or2 ?_)
  | (with_reducible refine' Ex.and2 ?_)
  | (with_reducible refine' Ex.bool1 ?_)
  | ((with_reducible refine' Ts.cmp ?_ ?h1); (case h1 => rfl))
  | (with_reducible refine' Ts.and2 ?_)
  | (with_reducible refine' TrB.and1 ?_)
  | (with_reducible refine' TrB.and0 ?_)
  | (with_reducible refine' TrB.or1 ?_)
  | (with_reducible refine' TrB.or0 ?_)
  | (with_reducible refine' Bo.add ?_)
  | (with_reducible refine' Bo.sub ?_)
  | ((with_reducible refine' Bo.shr ?h0 ?_); (case h0 => decide))
  | (with_reducible refine' Bo.and ?_)
  | (with_reducible refine' Co.eq ?_)
  | (with_reducible refine' Co.ne ?_)
  | (with_reducible refine' Co.lt ?_)
  | (with_reducible refine' Co.le ?_)
  | (with_reducible refine' Co.gt ?_)
  | (with_reducible refine' Co.ge ?_)
  | (with_reducible refine' Co.eqb ?_)
  | (with_reducible refine' Tt.int ?_)
  | (with_reducible refine' Tt.bool ?_)
  | ((with_reducible refine' Ar.cons ?_ ?h1); (case h1 => rfl))
  | (with_reducible refine' Ar.nil ?_)
  | (with_reducible refine' Ex.tup ?_)
  | (with_reducible refine' Ex.list ?_)
  | refine ⟨_, _, _, _, rfl, rfl, (by first | assumption | exact IsInfo.self (by (first | assumption | exact IsInfo.self (by assumption) | exact IsInfo.upd (by assumption) (by assumption) (by first | assumption | (apply Ne.symm; assumption)))) | exact IsInfo.upd (by (first | assumption | exact IsInfo.self (by assumption) | exact IsInfo.upd (by assumption) (by assumption) (by first | assumption | (apply Ne.symm; assumption)))) (by (first | assumption | exact IsInfo.self (by assumption) | exact IsInfo.upd (by assumption) (by assumption) (by first | assumption | (apply Ne.symm; assumption)))) (by first | assumption | (apply Ne.symm; assumption))), ?_⟩
  | refine ⟨_, _, _, _, rfl, (by (first | assumption | exact IsInfo.self (by (first | assumption | exact IsInfo.self (by assumption) | exact IsInfo.upd (by assumption) (by assumption) (by first | assumption | (apply Ne.symm; assumption)))) | exact IsInfo.upd (by (first | assumption | exact IsInfo.self (by assumption) | exact IsInfo.upd (by assumption) (by assumption) (by first | assumption | (apply Ne.symm; assumption)))) (by (first | assumption | exact IsInfo.self (by assumption) | exact IsInfo.upd (by assumption) (by assumption) (by first | assumption | (apply Ne.symm; assumption)))) (by first | assumption | (apply Ne.symm; assumption)))), (by simp), rfl, rfl, ?_⟩)
  (first
  | ((with_reducible refine' Ss.name ?_ ?h1 ?h2 ?h3); (case h1 => rfl); (case h2 => rfl); (case h3 => rfl))
  | (with_reducible refine' Ss.ret ?_)
  | (with_reducible refine' Ss.ret0 ?_)
  | ((with_reducible refine' Ss.set_xa ?h0 ?_ ?h2); (case h0 => assumption); (case h2 => rfl))
  | ((with_reducible refine' Ss.set_xo ?h0 ?_ ?h2); (case h0 => assumption); (case h2 => rfl))
  | ((with_reducible refine' Ss.set_parent ?h0 ?_ ?h2); (case h0 => assumption); (case h2 => rfl))
  | ((with_reducible refine' Ss.set_un ?h0 ?_ ?h2); (case h0 => assumption); (case h2 => rfl))
  | (with_reducible refine' Ss.cond ?_)
  | (with_reducible refine' Ss.nilA ?_)
  | (with_reducible refine' Ss.nil ?_)
  | (with_reducible refine' Ex.cint ?_)
  | (with_reducible refine' Ex.cstr ?_)
  | (with_reducible refine' Ex.cbool ?_)
  | (with_reducible refine' Ex.cnone ?_)
  | ((with_reducible refine' Ex.name ?h0 ?_ ?h2 ?h3 ?h4); (case h0 => rfl); (case h2 => rfl); (case h3 => rfl); (case h4 => decide))
  | (with_reducible refine' Ex.binop ?_)
  | ((with_reducible refine' Ex.cmp ?_ ?h1); (case h1 => rfl))
  | (with_reducible refine' Ex.neg ?_)
  | ((with_reducible refine' Ex.info ?h0 ?_ ?h2); (case h0 => assumption); (case h2 => rfl))
  | (with_reducible refine' Ex.ite ?_)
  | (with_reducible refine' Ex.or2 ?_)
  | (with_reducible refine' Ex.and2 ?_)
  | (with_reducible refine' Ex.bool1 ?_)
  | ((with_reducible refine' Ts.cmp ?_ ?h1); (case h1 => rfl))
  | (with_reducible refine' Ts.and2 ?_)
  | (with_reducible refine' TrB.and1 ?_)
  | (with_reducible refine' TrB.and0 ?_)
  | (with_reducible refine' TrB.or1 ?_)
  | (with_reducible refine' TrB.or0 ?_)
  | (with_reducible refine' Bo.add ?_)
  | (with_reducible refine' Bo.sub ?_)
  | ((with_reducible refine' Bo.shr ?h0 ?_); (case h0 => decide))
  | (with_reducible refine' Bo.and ?_)
  | (with_reducible refine' Co.eq ?_)
  | (with_reducible refine' Co.ne ?_)
  | (with_reducible refine' Co.lt ?_)
  | (with_reducible refine' Co.le ?_)
  | (with_reducible refine' Co.gt ?_)
  | (with_reducible refine' Co.ge ?_)
  | (with_reducible refine' Co.eqb ?_)
  | (with_reducible refine' Tt.int ?_)
  | (with_reducible refine' Tt.bool ?_)
  | ((with_reducible refine' Ar.cons ?_ ?h1); (case h1 => rfl))
  | (with_reducible refine' Ar.nil ?_)
  | (with_reducible refine' Ex.tup ?_)
  | (with_reducible refine' Ex.list ?_)
  | refine ⟨_, _, _, _, rfl, rfl, (by first | assumption | exact IsInfo.self (by (first | assumption | exact IsInfo.self (by assumption) | exact IsInfo.upd (by assumption) (by assumption) (by first | assumption | (apply Ne.symm; assumption)))) | exact IsInfo.upd (by (first | assumption | exact IsInfo.self (by assumption) | exact IsInfo.upd (by assumption) (by assumption) (by first | assumption | (apply Ne.symm; assumption)))) (by (first | assumption | exact IsInfo.self (by assumption) | exact IsInfo.upd (by assumption) (by assumption) (by first | assumption | (apply Ne.symm; assumption)))) (by first | assumption | (apply Ne.symm; assumption))), ?_⟩
  | refine ⟨_, _, _, _, rfl, (by (first | assumption | exact IsInfo.self (by (first | assumption | exact IsInfo.self (by assumption) | exact IsInfo.upd (by assumption) (by assumption) (by first | assumption | (apply Ne.symm; assumption)))) | exact IsInfo.upd (by (first | assumption | exact IsInfo.self (by assumption) | exact IsInfo.upd (by assumption) (by assumption) (by first | assumption | (apply Ne.symm; assumption)))) (by (first | assumption | exact IsInfo.self (by assumption) | exact IsInfo.upd (by assumption) (by assumption) (by first | assumption | (apply Ne.symm; assumption)))) (by first | assumption | (apply Ne.symm; assumption)))), (by simp), rfl, rfl, ?_⟩)
  have hE₂ : Ext (Ds R) f₁ (fset f₁ T (.tup [iv ra.2.2.glyph, iv rb.2.2.glyph])) := Ext.new hT
  have hTs : (fset f₁ T (.tup [iv ra.2.2.glyph, iv rb.2.2.glyph])) T = some (.tup ([ra.2.2.glyph, rb.2.2.glyph].map iv)) := fset_self
  have hR₂ : Row w (fset f₁ T (.tup [iv ra.2.2.glyph, iv rb.2.2.glyph])) (upd (allG R pv mask D) R) := hR₁.ext (M := []) (Ext.new hT) fun r _ => ⟨List.not_mem_nil, List.not_mem_nil⟩
  generalize fset f₁ T (.tup [iv ra.2.2.glyph, iv rb.2.2.glyph]) = f₂ at *
  have hl₂ : f₂ rl = some (.list (refs R)) := hE₂ _ _ hl₁ (hR.notDs hl fun y e => by cases e)
  have hp₂ : f₂ p = some (.pdict xs) := hE₂ _ _ hp₁ (hR.notDs hp fun y e => by cases e)
  have hk₂ := hk.ext hR (hE.trans hE₂)
  have B₂ := B₁.ext hE₂ (B.off hR).1 (B.off hR).2
  refine Ar.nil (Ca.getP hG (Nat.lt_of_le_of_lt (Nat.add_le_add_left (by decide) _) hA.line) hp₂ hk₂ hTs ?_)
  rw [hpv, ← hw]
  have hrow₃ : mset m₂ "distance" (iv (worth R pv mask a n)) "row" = some (.ref rl) := hrow'
  have hbuf₃ : mset m₂ "distance" (iv (worth R pv mask a n)) "buffer" = some (.ref b) := hbuf'
  have hgd₃ : mset m₂ "distance" (iv (worth R pv mask a n)) "gdef" = some (.ref g) := hgd'
  have hpr₃ : mset m₂ "distance" (iv (worth R pv mask a n)) "pairs" = some (.ref p) := hpr'
  have hmask₃ : mset m₂ "distance" (iv (worth R pv mask a n)) "mask" = some (iv mask) := hmask'
  have hat₃ : mset m₂ "distance" (iv (worth R pv mask a n)) "at" = some (iv a) := hat'
  have hbe₃ : mset m₂ "distance" (iv (worth R pv mask a n)) "behind" = some (iv n) := hbe
  have hdi₃ : mset m₂ "distance" (iv (worth R pv mask a n)) "distance" = some (iv (worth R pv mask a n)) := rfl
  generalize mset m₂ "distance" (iv (worth R pv mask a n)) = m₃ at *
  refine Ss.cond (Ts.cmp (Ex.name (v := iv (worth R pv mask a n)) hdi₃ ?_))
  (first
  | ((with_reducible refine' Ss.name ?_ ?h1 ?h2 ?h3); (case h1 => rfl); (case h2 => rfl); (case h3 => rfl))
  | (with_reducible refine' Ss.ret ?_)
  | (with_reducible refine' Ss.ret0 ?_)
  | ((with_reducible refine' Ss.set_xa ?h0 ?_ ?h2); (case h0 => assumption); (case h2 => rfl))
  | ((with_reducible refine' Ss.set_xo ?h0 ?_ ?h2); (case h0 => assumption); (case h2 => rfl))
  | ((with_reducible refine' Ss.set_parent ?h0 ?_ ?h2); (case h0 => assumption); (case h2 => rfl))
  | ((with_reducible refine' Ss.set_un ?h0 ?_ ?h2); (case h0 => assumption); (case h2 => rfl))
  | (with_reducible refine' Ss.cond ?_)
  | (with_reducible refine' Ss.nilA ?_)
  | (with_reducible refine' Ss.nil ?_)
  | (with_reducible refine' Ex.cint ?_)
  | (with_reducible refine' Ex.cstr ?_)
  | (with_reducible refine' Ex.cbool ?_)
  | (with_reducible refine' Ex.cnone ?_)
  | ((with_reducible refine' Ex.name ?h0 ?_ ?h2 ?h3 ?h4); (case h0 => rfl); (case h2 => rfl); (case h3 => rfl); (case h4 => decide))
  | (with_reducible refine' Ex.binop ?_)
  | ((with_reducible refine' Ex.cmp ?_ ?h1); (case h1 => rfl))
  | (with_reducible refine' Ex.neg ?_)
  | ((with_reducible refine' Ex.info ?h0 ?_ ?h2); (case h0 => assumption); (case h2 => rfl))
  | (with_reducible refine' Ex.ite ?_)
  | (with_reducible refine' Ex.or2 ?_)
  | (with_reducible refine' Ex.and2 ?_)
  | (with_reducible refine' Ex.bool1 ?_)
  | ((with_reducible refine' Ts.cmp ?_ ?h1); (case h1 => rfl))
  | (with_reducible refine' Ts.and2 ?_)
  | (with_reducible refine' TrB.and1 ?_)
  | (with_reducible refine' TrB.and0 ?_)
  | (with_reducible refine' TrB.or1 ?_)
  | (with_reducible refine' TrB.or0 ?_)
  | (with_reducible refine' Bo.add ?_)
  | (with_reducible refine' Bo.sub ?_)
  | ((with_reducible refine' Bo.shr ?h0 ?_); (case h0 => decide))
  | (with_reducible refine' Bo.and ?_)
  | (with_reducible refine' Co.eq ?_)
  | (with_reducible refine' Co.ne ?_)
  | (with_reducible refine' Co.lt ?_)
  | (with_reducible refine' Co.le ?_)
  | (with_reducible refine' Co.gt ?_)
  | (with_reducible refine' Co.ge ?_)
  | (with_reducible refine' Co.eqb ?_)
  | (with_reducible refine' Tt.int ?_)
  | (with_reducible refine' Tt.bool ?_)
  | ((with_reducible refine' Ar.cons ?_ ?h1); (case h1 => rfl))
  | (with_reducible refine' Ar.nil ?_)
  | (with_reducible refine' Ex.tup ?_)
  | (with_reducible refine' Ex.list ?_)
  | refine ⟨_, _, _, _, rfl, rfl, (by first | assumption | exact IsInfo.self (by (first | assumption | exact IsInfo.self (by assumption) | exact IsInfo.upd (by assumption) (by assumption) (by first | assumption | (apply Ne.symm; assumption)))) | exact IsInfo.upd (by (first | assumption | exact IsInfo.self (by assumption) | exact IsInfo.upd (by assumption) (by assumption) (by first | assumption | (apply Ne.symm; assumption)))) (by (first | assumption | exact IsInfo.self (by assumption) | exact IsInfo.upd (by assumption) (by assumption) (by first | assumption | (apply Ne.symm; assumption)))) (by first | assumption | (apply Ne.symm; assumption))), ?_⟩
  | refine ⟨_, _, _, _, rfl, (by (first | assumption | exact IsInfo.self (by (first | assumption | exact IsInfo.self (by assumption) | exact IsInfo.upd (by assumption) (by assumption) (by first | assumption | (apply Ne.symm; assumption)))) | exact IsInfo.upd (by (first | assumption | exact IsInfo.self (by assumption) | exact IsInfo.upd (by assumption) (by assumption) (by first | assumption | (apply Ne.symm; assumption)))) (by (first | assumption | exact IsInfo.self (by assumption) | exact IsInfo.upd (by assumption) (by assumption) (by first | assumption | (apply Ne.symm; assumption)))) (by first | assumption | (apply Ne.symm; assumption)))), (by simp), rfl, rfl, ?_⟩)
  (first
  | ((with_reducible refine' Ss.name ?_ ?h1 ?h2 ?h3); (case h1 => rfl); (case h2 => rfl); (case h3 => rfl))
  | (with_reducible refine' Ss.ret ?_)
  | (with_reducible refine' Ss.ret0 ?_)
  | ((with_reducible refine' Ss.set_xa ?h0 ?_ ?h2); (case h0 => assumption); (case h2 => rfl))
  | ((with_reducible refine' Ss.set_xo ?h0 ?_ ?h2); (case h0 => assumption); (case h2 => rfl))
  | ((with_reducible refine' Ss.set_parent ?h0 ?_ ?h2); (case h0 => assumption); (case h2 => rfl))
  | ((with_reducible refine' Ss.set_un ?h0 ?_ ?h2); (case h0 => assumption); (case h2 => rfl))
  | (with_reducible refine' Ss.cond ?_)
  | (with_reducible refine' Ss.nilA ?_)
  | (with_reducible refine' Ss.nil ?_)
  | (with_reducible refine' Ex.cint ?_)
  | (with_reducible refine' Ex.cstr ?_)
  | (with_reducible refine' Ex.cbool ?_)
  | (with_reducible refine' Ex.cnone ?_)
  | ((with_reducible refine' Ex.name ?h0 ?_ ?h2 ?h3 ?h4); (case h0 => rfl); (case h2 => rfl); (case h3 => rfl); (case h4 => decide))
  | (with_reducible refine' Ex.binop ?_)
  | ((with_reducible refine' Ex.cmp ?_ ?h1); (case h1 => rfl))
  | (with_reducible refine' Ex.neg ?_)
  | ((with_reducible refine' Ex.info ?h0 ?_ ?h2); (case h0 => assumption); (case h2 => rfl))
  | (with_reducible refine' Ex.ite ?_)
  | (with_reducible refine' Ex.or2 ?_)
  | (with_reducible refine' Ex.and2 ?_)
  | (with_reducible refine' Ex.bool1 ?_)
  | ((with_reducible refine' Ts.cmp ?_ ?h1); (case h1 => rfl))
  | (with_reducible refine' Ts.and2 ?_)
  | (with_reducible refine' TrB.and1 ?_)
  | (with_reducible refine' TrB.and0 ?_)
  | (with_reducible refine' TrB.or1 ?_)
  | (with_reducible refine' TrB.or0 ?_)
  | (with_reducible refine' Bo.add ?_)
  | (with_reducible refine' Bo.sub ?_)
  | ((with_reducible refine' Bo.shr ?h0 ?_); (case h0 => decide))
  | (with_reducible refine' Bo.and ?_)
  | (with_reducible refine' Co.eq ?_)
  | (with_reducible refine' Co.ne ?_)
  | (with_reducible refine' Co.lt ?_)
  | (with_reducible refine' Co.le ?_)
  | (with_reducible refine' Co.gt ?_)
  | (with_reducible refine' Co.ge ?_)
  | (with_reducible refine' Co.eqb ?_)
  | (with_reducible refine' Tt.int ?_)
  | (with_reducible refine' Tt.bool ?_)
  | ((with_reducible refine' Ar.cons ?_ ?h1); (case h1 => rfl))
  | (with_reducible refine' Ar.nil ?_)
  | (with_reducible refine' Ex.tup ?_)
  | (with_reducible refine' Ex.list ?_)
  | refine ⟨_, _, _, _, rfl, rfl, (by first | assumption | exact IsInfo.self (by (first | assumption | exact IsInfo.self (by assumption) | exact IsInfo.upd (by assumption) (by assumption) (by first | assumption | (apply Ne.symm; assumption)))) | exact IsInfo.upd (by (first | assumption | exact IsInfo.self (by assumption) | exact IsInfo.upd (by assumption) (by assumption) (by first | assumption | (apply Ne.symm; assumption)))) (by (first | assumption | exact IsInfo.self (by assumption) | exact IsInfo.upd (by assumption) (by assumption) (by first | assumption | (apply Ne.symm; assumption)))) (by first | assumption | (apply Ne.symm; assumption))), ?_⟩
  | refine ⟨_, _, _, _, rfl, (by (first | assumption | exact IsInfo.self (by (first | assumption | exact IsInfo.self (by assumption) | exact IsInfo.upd (by assumption) (by assumption) (by first | assumption | (apply Ne.symm; assumption)))) | exact IsInfo.upd (by (first | assumption | exact IsInfo.self (by assumption) | exact IsInfo.upd (by assumption) (by assumption) (by first | assumption | (apply Ne.symm; assumption)))) (by (first | assumption | exact IsInfo.self (by assumption) | exact IsInfo.upd (by assumption) (by assumption) (by first | assumption | (apply Ne.symm; assumption)))) (by first | assumption | (apply Ne.symm; assumption)))), (by simp), rfl, rfl, ?_⟩)
  refine ⟨_, rfl, ?_⟩
  by_cases hd : worth R pv mask a n = 0
  · rw [if_neg (by simpa using hd)]
    refine Ss.nilA (Ss.nilA (Ss.name (Ex.name (v := iv n) hbe₃ (Ss.nil ⟨rfl, fin m₃ f₂ _ hrow₃ hbuf₃ hgd₃ hpr₃ hmask₃ (fun _ => rfl) (fun q => absurd q (by omega)) hE₂ ?_⟩))))
    rw [noop hd]; exact hR₂
  rw [if_pos (by simpa using hd)]
  have han : a ≠ n := by omega
  have hne : ra.2.1 ≠ rb.2.1 := hR.ne hra hrb han
  refine Ss.expr (Ex.callD hG df_put (Ar.cons (Ex.rowR hrow₃ hat₃ (.inl hl₂) hz hra (Ar.cons (Ex.rowR hrow₃ hbe₃ (.inl hl₂) hz hrb (Ar.cons (Ex.name (v := iv (worth R pv mask a n)) hdi₃ (Ar.nil (Ca.def
    (put_distance_spec hG (hA.mono (by decide)) (hR₂.get' hra) (hR₂.get' hrb) hne fun f₃ hoff j1 j2 => ⟨rfl, ?_⟩))))))))))
  have hR₃ : Row w f₃ (upd (putG a n (worth R pv mask a n)) (upd (allG R pv mask D) R)) :=
    Row.put hR₂ (ra := (ra.1, ra.2.1, allG R pv mask D a ra.2.2)) (rb := (rb.1, rb.2.1, allG R pv mask D n rb.2.2)) (by rw [upd_get, hra]; rfl) (by rw [upd_get, hrb]; rfl) han hoff j1 j2
  have hE₃ : Ext (Ds R) f₂ f₃ := fun x c e q => by
    rw [hoff x (fun t => q (List.mem_map.mpr ⟨ra, List.mem_of_getElem? hra, t.symm⟩)) (fun t => q (List.mem_map.mpr ⟨rb, List.mem_of_getElem? hrb, t.symm⟩))]; exact e
  have hl₃ : f₃ rl = some (.list (refs R)) := hl_of hR hl ((hE.trans hE₂).trans hE₃)
  have B₃ := B₂.ext hE₃ (B.off hR).1 (B.off hR).2
  rw [upd_upd] at hR₃
  refine Ss.expr (Ex.callD hG df_hang (Ar.cons (Ex.name (v := .ref b) hbuf₃ (Ar.cons (Ex.name (v := iv a) hat₃ (Ar.cons (Ex.binop (Ex.name (v := iv n) hbe₃ ?_))))))))
  (first
  | ((with_reducible refine' Ss.name ?_ ?h1 ?h2 ?h3); (case h1 => rfl); (case h2 => rfl); (case h3 => rfl))
  | (with_reducible refine' Ss.ret ?_)
  | (with_reducible refine' Ss.ret0 ?_)
  | ((with_reducible refine' Ss.set_xa ?h0 ?_ ?h2); (case h0 => assumption); (case h2 => rfl))
  | ((with_reducible refine' Ss.set_xo ?h0 ?_ ?h2); (case h0 => assumption); (case h2 => rfl))
  | ((with_reducible refine' Ss.set_parent ?h0 ?_ ?h2); (case h0 => assumption); (case h2 => rfl))
  | ((with_reducible refine' Ss.set_un ?h0 ?_ ?h2); (case h0 => assumption); (case h2 => rfl))
  | (with_reducible refine' Ss.cond ?_)
  | (with_reducible refine' Ss.nilA ?_)
  | (with_reducible refine' Ss.nil ?_)
  | (with_reducible refine' Ex.cint ?_)
  | (with_reducible refine' Ex.cstr ?_)
  | (with_reducible refine' Ex.cbool ?_)
  | (with_reducible refine' Ex.cnone ?_)
  | ((with_reducible refine' Ex.name ?h0 ?_ ?h2 ?h3 ?h4); (case h0 => rfl); (case h2 => rfl); (case h3 => rfl); (case h4 => decide))
  | (with_reducible refine' Ex.binop ?_)
  | ((with_reducible refine' Ex.cmp ?_ ?h1); (case h1 => rfl))
  | (with_reducible refine' Ex.neg ?_)
  | ((with_reducible refine' Ex.info ?h0 ?_ ?h2); (case h0 => assumption); (case h2 => rfl))
  | (with_reducible refine' Ex.ite ?_)
  | (with_reducible refine' Ex.or2 ?_)
  | (with_reducible refine' Ex.and2 ?_)
  | (with_reducible refine' Ex.bool1 ?_)
  | ((with_reducible refine' Ts.cmp ?_ ?h1); (case h1 => rfl))
  | (with_reducible refine' Ts.and2 ?_)
  | (with_reducible refine' TrB.and1 ?_)
  | (with_reducible refine' TrB.and0 ?_)
  | (with_reducible refine' TrB.or1 ?_)
  | (with_reducible refine' TrB.or0 ?_)
  | (with_reducible refine' Bo.add ?_)
  | (with_reducible refine' Bo.sub ?_)
  | ((with_reducible refine' Bo.shr ?h0 ?_); (case h0 => decide))
  | (with_reducible refine' Bo.and ?_)
  | (with_reducible refine' Co.eq ?_)
  | (with_reducible refine' Co.ne ?_)
  | (with_reducible refine' Co.lt ?_)
  | (with_reducible refine' Co.le ?_)
  | (with_reducible refine' Co.gt ?_)
  | (with_reducible refine' Co.ge ?_)
  | (with_reducible refine' Co.eqb ?_)
  | (with_reducible refine' Tt.int ?_)
  | (with_reducible refine' Tt.bool ?_)
  | ((with_reducible refine' Ar.cons ?_ ?h1); (case h1 => rfl))
  | (with_reducible refine' Ar.nil ?_)
  | (with_reducible refine' Ex.tup ?_)
  | (with_reducible refine' Ex.list ?_)
  | refine ⟨_, _, _, _, rfl, rfl, (by first | assumption | exact IsInfo.self (by (first | assumption | exact IsInfo.self (by assumption) | exact IsInfo.upd (by assumption) (by assumption) (by first | assumption | (apply Ne.symm; assumption)))) | exact IsInfo.upd (by (first | assumption | exact IsInfo.self (by assumption) | exact IsInfo.upd (by assumption) (by assumption) (by first | assumption | (apply Ne.symm; assumption)))) (by (first | assumption | exact IsInfo.self (by assumption) | exact IsInfo.upd (by assumption) (by assumption) (by first | assumption | (apply Ne.symm; assumption)))) (by first | assumption | (apply Ne.symm; assumption))), ?_⟩
  | refine ⟨_, _, _, _, rfl, (by (first | assumption | exact IsInfo.self (by (first | assumption | exact IsInfo.self (by assumption) | exact IsInfo.upd (by assumption) (by assumption) (by first | assumption | (apply Ne.symm; assumption)))) | exact IsInfo.upd (by (first | assumption | exact IsInfo.self (by assumption) | exact IsInfo.upd (by assumption) (by assumption) (by first | assumption | (apply Ne.symm; assumption)))) (by (first | assumption | exact IsInfo.self (by assumption) | exact IsInfo.upd (by assumption) (by assumption) (by first | assumption | (apply Ne.symm; assumption)))) (by first | assumption | (apply Ne.symm; assumption)))), (by simp), rfl, rfl, ?_⟩)
  (first
  | ((with_reducible refine' Ss.name ?_ ?h1 ?h2 ?h3); (case h1 => rfl); (case h2 => rfl); (case h3 => rfl))
  | (with_reducible refine' Ss.ret ?_)
  | (with_reducible refine' Ss.ret0 ?_)
  | ((with_reducible refine' Ss.set_xa ?h0 ?_ ?h2); (case h0 => assumption); (case h2 => rfl))
  | ((with_reducible refine' Ss.set_xo ?h0 ?_ ?h2); (case h0 => assumption); (case h2 => rfl))
  | ((with_reducible refine' Ss.set_parent ?h0 ?_ ?h2); (case h0 => assumption); (case h2 => rfl))
  | ((with_reducible refine' Ss.set_un ?h0 ?_ ?h2); (case h0 => assumption); (case h2 => rfl))
  | (with_reducible refine' Ss.cond ?_)
  | (with_reducible refine' Ss.nilA ?_)
  | (with_reducible refine' Ss.nil ?_)
  | (with_reducible refine' Ex.cint ?_)
  | (with_reducible refine' Ex.cstr ?_)
  | (with_reducible refine' Ex.cbool ?_)
  | (with_reducible refine' Ex.cnone ?_)
  | ((with_reducible refine' Ex.name ?h0 ?_ ?h2 ?h3 ?h4); (case h0 => rfl); (case h2 => rfl); (case h3 => rfl); (case h4 => decide))
  | (with_reducible refine' Ex.binop ?_)
  | ((with_reducible refine' Ex.cmp ?_ ?h1); (case h1 => rfl))
  | (with_reducible refine' Ex.neg ?_)
  | ((with_reducible refine' Ex.info ?h0 ?_ ?h2); (case h0 => assumption); (case h2 => rfl))
  | (with_reducible refine' Ex.ite ?_)
  | (with_reducible refine' Ex.or2 ?_)
  | (with_reducible refine' Ex.and2 ?_)
  | (with_reducible refine' Ex.bool1 ?_)
  | ((with_reducible refine' Ts.cmp ?_ ?h1); (case h1 => rfl))
  | (with_reducible refine' Ts.and2 ?_)
  | (with_reducible refine' TrB.and1 ?_)
  | (with_reducible refine' TrB.and0 ?_)
  | (with_reducible refine' TrB.or1 ?_)
  | (with_reducible refine' TrB.or0 ?_)
  | (with_reducible refine' Bo.add ?_)
  | (with_reducible refine' Bo.sub ?_)
  | ((with_reducible refine' Bo.shr ?h0 ?_); (case h0 => decide))
  | (with_reducible refine' Bo.and ?_)
  | (with_reducible refine' Co.eq ?_)
  | (with_reducible refine' Co.ne ?_)
  | (with_reducible refine' Co.lt ?_)
  | (with_reducible refine' Co.le ?_)
  | (with_reducible refine' Co.gt ?_)
  | (with_reducible refine' Co.ge ?_)
  | (with_reducible refine' Co.eqb ?_)
  | (with_reducible refine' Tt.int ?_)
  | (with_reducible refine' Tt.bool ?_)
  | ((with_reducible refine' Ar.cons ?_ ?h1); (case h1 => rfl))
  | (with_reducible refine' Ar.nil ?_)
  | (with_reducible refine' Ex.tup ?_)
  | (with_reducible refine' Ex.list ?_)
  | refine ⟨_, _, _, _, rfl, rfl, (by first | assumption | exact IsInfo.self (by (first | assumption | exact IsInfo.self (by assumption) | exact IsInfo.upd (by assumption) (by assumption) (by first | assumption | (apply Ne.symm; assumption)))) | exact IsInfo.upd (by (first | assumption | exact IsInfo.self (by assumption) | exact IsInfo.upd (by assumption) (by assumption) (by first | assumption | (apply Ne.symm; assumption)))) (by (first | assumption | exact IsInfo.self (by assumption) | exact IsInfo.upd (by assumption) (by assumption) (by first | assumption | (apply Ne.symm; assumption)))) (by first | assumption | (apply Ne.symm; assumption))), ?_⟩
  | refine ⟨_, _, _, _, rfl, (by (first | assumption | exact IsInfo.self (by (first | assumption | exact IsInfo.self (by assumption) | exact IsInfo.upd (by assumption) (by assumption) (by first | assumption | (apply Ne.symm; assumption)))) | exact IsInfo.upd (by (first | assumption | exact IsInfo.self (by assumption) | exact IsInfo.upd (by assumption) (by assumption) (by first | assumption | (apply Ne.symm; assumption)))) (by (first | assumption | exact IsInfo.self (by assumption) | exact IsInfo.upd (by assumption) (by assumption) (by first | assumption | (apply Ne.symm; assumption)))) (by first | assumption | (apply Ne.symm; assumption)))), (by simp), rfl, rfl, ?_⟩)
  have hj : (n : Int) + 1 = ((n + 1 : Nat) : Int) := rfl
  rw [hj]
  refine Ar.nil (Ca.def (hang_spec (R := upd (fun k x => putG a n (worth R pv mask a n) k (allG R pv mask D k x)) R) hG (hA.mono (by decide)) B₃ (by rw [upd_refs]; exact hl₃) hR₃ (by omega) (by rw [upd_len]; omega) (by rw [upd_len]; exact hz) fun f₄ M hM hle hE₄ hR₄ => ⟨rfl, ?_⟩))
  have hMe : M = lst (clus R a n) := by
    refine lst_eq ?_ ?_
    · obtain ⟨k, r, h1, h2, h3, rfl⟩ := hM
      exact (clus_upd (R := R) (G := fun k x => putG a n (worth R pv mask a n) k (allG R pv mask D k x)) (fun k x => ((putG_same ..).trans (allG_same ..)).cluster) a n _).mp (mem_clus.mpr ⟨k, r, h1, by omega, h3, rfl⟩)
    · intro c hc
      obtain ⟨k, r, h1, h2, h3, rfl⟩ := mem_clus.mp ((clus_upd (R := R) (G := fun k x => putG a n (worth R pv mask a n) k (allG R pv mask D k x)) (fun k x => ((putG_same ..).trans (allG_same ..)).cluster) a n _).mpr hc)
      exact hle k r h1 (by omega) h3
  rw [upd_Ds] at hE₄
  rw [upd_upd] at hR₄
  refine Ss.nilA (Ss.nilA (Ss.name (Ex.name (v := iv n) hbe₃ (Ss.nil ⟨rfl, fin m₃ f₄ _ hrow₃ hbuf₃ hgd₃ hpr₃ hmask₃ (fun _ => rfl) (fun q => absurd q (by omega)) ((hE₂.trans hE₃).trans hE₄) ?_⟩))))
  rw [upd_ext (h := fun k x => hangG a (n + 1) M k (putG a n (worth R pv mask a n) k (allG R pv mask D k x))) fun k r _ => by rw [allG_snoc]; unfold stepG; rw [if_neg hd, hMe]]
  exact hR₄

end Mine

namespace Mine
-- W7
set_option maxRecDepth 100000
set_option maxHeartbeats 2000000
theorem fillit7 : (PySem.Challenge.rw_nu0162_01 = PySem.Challenge.rw_nu0162_01) ∧ (∀ P, KK P = KK P) := by
  k_fill
  exact ⟨rfl, fun _ => rfl⟩
variable {w : World} {h₀ : Heap} {A : Around} {f f' : Fh}
theorem Row.notRl {R : Rw} {rl a : Addr} {xs : List Value} {c : Cel} (h : Row w f R) (hl : f rl = some (.list xs)) (e : f a = some c) (n : ∀ y, c ≠ .dict (infoEs w.params y)) (n' : ∀ ys, c ≠ .list ys) : a ∉ rl :: Ds R := fun q => by
  rcases List.mem_cons.mp q with rfl | q
  · exact n' _ (Option.some.inj (e.symm.trans hl))
  · exact h.notDs e n q
theorem IsGdef.ext2 {R : Rw} {rl g : Addr} {xs : List Value} {kvs : List (Int × Value)} (C : IsGdef w f g kvs) (hR : Row w f R) (hl : f rl = some (.list xs)) (e : Ext (rl :: Ds R) f f') : IsGdef w f' g kvs := by
  obtain ⟨dg, c, c2, s, p, q, e1, e2, dc, D, c1, c3, c4⟩ := C
  exact ⟨dg, c, c2, s, p, q, e _ _ e1 (hR.notRl hl e1 (fun y e => by cases e) (fun y e => by cases e)), e _ _ e2 (hR.notRl hl e2 (nd_len (by simp)) (fun y e => by cases e)), dc, D, e _ _ c1 (hR.notRl hl c1 (fun y e => by cases e) (fun y e => by cases e)), e _ _ c3 (hR.notRl hl c3 (nd_len (by simp)) (fun y e => by cases e)), e _ _ c4 (hR.notRl hl c4 (fun y e => by cases e) (fun y e => by cases e))⟩
theorem KeysAt.ext2 {R : Rw} {rl : Addr} {zs : List Value} {xs : List (List Int × Addr × Value)} (k : KeysAt f xs) (hR : Row w f R) (hl : f rl = some (.list zs)) (e : Ext (rl :: Ds R) f f') : KeysAt f' xs := fun x hx => e _ _ (k x hx) (hR.notRl hl (k x hx) (fun y e => by cases e) (fun y e => by cases e))
noncomputable def kerned (back : Bool) (cl : Int → Int) (pv : Int → Int → Int) (mask : Int) (R : Rw) : Rw :=
  if back = true then upd (fun _ => negP) (upd (allG (upd (fun _ => negP) R.reverse) pv mask (prs (U (upd (fun _ => negP) R.reverse) cl 0))) (upd (fun _ => negP) R.reverse)).reverse
  else upd (allG R pv mask (prs (U R cl 0))) R
theorem apply_kern_spec {b bd rl p g : Addr} {back : Bool} {R : Rw} {kvs : List (Int × Value)} {cl : Int → Int} {xs : List (List Int × Addr × Value)} {pv : Int → Int → Int} {mask : Int} {P : Value → Fh → Prop} (hG : (GG w h₀).Ok) (hA : Rm 6 A)
    (B : IsBuf w f b bd rl back) (hl : f rl = some (.list (refs R))) (hR : Row w f R) (hz : R.length ≤ 1000) (C : IsGdef w f g kvs) (hv : ∀ k, (valueAt kvs k).getD (iv 0) = iv (cl k)) (hp : f p = some (.pdict xs)) (hk : KeysAt f xs)
    (hpv : ∀ a b, ((atKey xs [a, b]).map (·.2)).getD (iv 0) = iv (pv a b)) (h : ∀ f', Ext (rl :: Ds R) f f' → f' rl = some (.list (refs R)) → Row w f' (kerned back cl pv mask R) → P .none f') :
    Cd (GG w h₀) A f 142 [.ref b, .ref g, .ref p, iv mask] P := by
  refine Cd.enter4 (n₁ := "buffer") (n₂ := "gdef") (n₃ := "pairs") (n₄ := "mask") hG hA (ho_lit (by dsimp only; k_is) rfl) (by dsimp only; k_is) fun L hA => ?_
  refine Ss.cond (Ts.plain (Ex.bback hG (Ex.name rfl ⟨b, bd, rl, back, rfl, B, Tt.bool ?_⟩)))
  unfold kerned at h
  cases back
  · rw [if_neg (by decide)]
    rw [if_neg (by decide)] at h
    refine Ss.expr (Ex.callD hG df_kern (Ar.cons (Ex.name rfl (Ar.cons (Ex.name rfl (Ar.cons (Ex.name rfl (Ar.cons (Ex.name rfl (Ar.nil (Ca.def
      (kern_row_spec hG hA B hl hR hz C hv hp hk hpv fun f' e r => ⟨rfl, ?_⟩))))))))))))
    exact Ss.nilA (Ss.nil (h f' (e.mono fun x hx => List.mem_cons_of_mem _ hx) (hl_of hR hl e) r))
  · rw [if_pos rfl]
    rw [if_pos rfl] at h
    refine Ss.expr (Ex.callD hG df_turn (Ar.cons (Ex.name rfl (Ar.nil (Ca.def
      (turn_row_spec hG (hA.mono (by decide)) B hl hR hz fun f₁ e₁ hl₁ r₁ => ⟨rfl, ?_⟩))))))
    have B₁ : IsBuf w f₁ b bd rl true := B.ext e₁ (fun q => by rcases List.mem_cons.mp q with q | q; exact (B.neL (.inl hl)).1 q; exact (B.off hR).1 q) (fun q => by rcases List.mem_cons.mp q with q | q; exact (B.neL (.inl hl)).2 q; exact (B.off hR).2 q)
    have C₁ := C.ext2 hR hl e₁
    have hk₁ := hk.ext2 hR hl e₁
    have hp₁ : f₁ p = some (.pdict xs) := e₁ _ _ hp (hR.notRl hl hp (fun y e => by cases e) (fun y e => by cases e))
    have hlen : (upd (fun _ => negP) R.reverse).length = R.length := by rw [upd_len, List.length_reverse]
    have hl₁' : f₁ rl = some (.list (refs (upd (fun _ => negP) R.reverse))) := by rw [upd_refs]; exact hl₁
    have hDs : ∀ x, x ∈ Ds (upd (fun _ => negP) R.reverse) → x ∈ Ds R := fun x hx => by rw [upd_Ds, show Ds R.reverse = (Ds R).reverse from List.map_reverse ..] at hx; exact List.mem_reverse.mp hx
    have hrf : refs (upd (fun _ => negP) R.reverse) = (refs R).reverse := by rw [upd_refs, refs_rev]
    generalize upd (fun _ => negP) R.reverse = R₁ at *
    refine Ss.expr (Ex.callD hG df_kern (Ar.cons (Ex.name rfl (Ar.cons (Ex.name rfl (Ar.cons (Ex.name rfl (Ar.cons (Ex.name rfl (Ar.nil (Ca.def
      (kern_row_spec hG hA B₁ hl₁' r₁ (by omega) C₁ hv hp₁ hk₁ hpv fun f₂ e₂ r₂ => ⟨rfl, ?_⟩))))))))))))
    have B₂ := B₁.ext e₂ (B₁.off r₁).1 (B₁.off r₁).2
    have hl₂ := hl_of r₁ hl₁' e₂
    refine Ss.expr (Ex.callD hG df_turn (Ar.cons (Ex.name rfl (Ar.nil (Ca.def
      (turn_row_spec (R := upd (allG R₁ pv mask (prs (U R₁ cl 0))) R₁) hG (hA.mono (by decide)) B₂ (by rw [upd_refs]; exact hl₂) r₂ (by rw [upd_len]; omega) fun f₃ e₃ hl₃ r₃ => ⟨rfl, ?_⟩))))))
    refine Ss.nilA (Ss.nil (h f₃ ?_ ?_ r₃))
    · refine (e₁.trans (e₂.mono fun x hx => List.mem_cons_of_mem _ (hDs x hx))).trans (e₃.mono fun x hx => ?_)
      rcases List.mem_cons.mp hx with rfl | hx
      · exact .head _
      · rw [upd_Ds] at hx; exact List.mem_cons_of_mem _ (hDs x hx)
    · rw [hl₃, refs_rev, upd_refs, hrf, List.reverse_reverse]

end Mine

namespace Mine
-- W8
set_option maxRecDepth 100000
set_option maxHeartbeats 2000000
theorem fillit8 : (PySem.Challenge.rw_nu0162_01 = PySem.Challenge.rw_nu0162_01) ∧ (∀ P, KK P = KK P) := by
  k_fill
  exact ⟨rfl, fun _ => rfl⟩
variable {w : World} {h₀ : Heap} {A : Around} {f f' : Fh}
theorem fset_comm {a b : Addr} {c c' : Cel} (h : a ≠ b) : fset (fset f a c) b c' = fset (fset f b c') a c := by
  funext x
  by_cases h1 : x = a
  · subst h1; rw [fset_ne h, fset_self, fset_self]
  · by_cases h2 : x = b
    · subst h2; rw [fset_self, fset_ne h1, fset_self]
    · rw [fset_ne h2, fset_ne h1, fset_ne h1, fset_ne h2]
theorem fset_fset {a : Addr} {c c' : Cel} : fset (fset f a c) a c' = fset f a c' := by
  funext x
  by_cases h1 : x = a
  · subst h1; rw [fset_self, fset_self]
  · rw [fset_ne h1, fset_ne h1, fset_ne h1]
theorem Ss.put {env : Env} {m : Loc} {P : Flow → Loc → Fh → Prop} {rest : List Stmt} {x C d : Addr} {n : PySem.Str} {es es' : List DictEntry} {e : Expr} {px ap pos : Pos} (hG : (GG w h₀).Ok) (ok : SetOk (KK w.params) C n) (hm : m "self" = some (.ref x))
    (h : Ex ⟨GG w h₀, A, env⟩ m (fset f d (.dict es)) e fun v f₁ => ∃ f₂, f₁ = fset f₂ d (.dict es) ∧ (x ≠ d ∧ f₂ x = some (.inst C d) ∧ (getL n es).isSome = true ∧ es.length ≤ 100) ∧ putL n (PyData.keyHash w.params n) (sv n) v es = es' ∧ Ss ⟨GG w h₀, A, env⟩ m (fset f₂ d (.dict es')) rest P)
    (hl : env.kindOf "self" = some .local := by rfl) (hk : env.scope.kind = .function := by rfl) (hs : swapsWith e (some (.Attribute (.Name "self" px) n ap)) pos.line env = pure false := by rfl) : Ss ⟨GG w h₀, A, env⟩ m (fset f d (.dict es)) (.Assign [.Attribute (.Name "self" px) n ap] e pos :: rest) P := by
  refine Ss.cons (St1.attr hG (h.mono fun v f₁ q => ?_) hs)
  obtain ⟨f₂, rfl, ⟨q1, q2, q3, q4⟩, rfl, p⟩ := q
  refine Ex.name hm ⟨x, C, d, es, rfl, ok, by rw [fset_ne q1]; exact q2, fset_self, q3, q4, andNext ?_⟩ hk hl (by decide)
  rw [fset_fset]; exact p
theorem Ss.put' {env : Env} {m : Loc} {P : Flow → Loc → Fh → Prop} {rest : List Stmt} {x C d : Addr} {n : PySem.Str} {es : List DictEntry} {e : Expr} {px ap pos : Pos} (hG : (GG w h₀).Ok) (ok : SetOk (KK w.params) C n) (hm : m "self" = some (.ref x))
    (h : Ex ⟨GG w h₀, A, env⟩ m (fset f d (.dict es)) e fun v f₁ => ∃ f₂ es', f₁ = fset f₂ d (.dict es) ∧ (x ≠ d ∧ f₂ x = some (.inst C d) ∧ (getL n es).isSome = true ∧ es.length ≤ 100) ∧ putL n (PyData.keyHash w.params n) (sv n) v es = es' ∧ Ss ⟨GG w h₀, A, env⟩ m (fset f₂ d (.dict es')) rest P)
    (hl : env.kindOf "self" = some .local := by rfl) (hk : env.scope.kind = .function := by rfl) (hs : swapsWith e (some (.Attribute (.Name "self" px) n ap)) pos.line env = pure false := by rfl) : Ss ⟨GG w h₀, A, env⟩ m (fset f d (.dict es)) (.Assign [.Attribute (.Name "self" px) n ap] e pos :: rest) P := by
  refine Ss.cons (St1.attr hG (h.mono fun v f₁ q => ?_) hs)
  obtain ⟨f₂, es', rfl, ⟨q1, q2, q3, q4⟩, rfl, p⟩ := q
  refine Ex.name hm ⟨x, C, d, es, rfl, ok, by rw [fset_ne q1]; exact q2, fset_self, q3, q4, andNext ?_⟩ hk hl (by decide)
  rw [fset_fset]; exact p
theorem info_init_spec {x d : Addr} {g c : Int} {P : Value → Fh → Prop} (hG : (GG w h₀).Ok) (hA : Rm 1 A) (hne : x ≠ d) (hx : f x = some (.inst 52 d)) (h : P .none (fset f d (.dict (infoEs w.params ⟨g, c, 0, false, 0, 0, 0, 0, 0, ""⟩)))) :
    Cd (GG w h₀) A (fset f d (.dict [])) 35 [.ref x, iv 65, iv g, iv c] P := by
  refine Cd.enter4 (n₁ := "self") (n₂ := "code") (n₃ := "glyph") (n₄ := "cluster") hG hA (ho_lit (by dsimp only; k_is) rfl) (by dsimp only; k_is) fun L hA => ?_
  refine Ss.put (es' := [ent w.params "code" (iv 65)]) hG (so_info "code" (by simp)) rfl (Ex.name rfl ⟨_, rfl, ⟨hne, hx, rfl, by simp⟩, rfl, ?_⟩)
  refine Ss.put (es' := [ent w.params "code" (iv 65), ent w.params "glyph" (iv g)]) hG (so_info "glyph" (by simp)) rfl (Ex.name rfl ⟨_, rfl, ⟨hne, hx, rfl, by simp⟩, rfl, ?_⟩)
  refine Ss.put (es' := [ent w.params "code" (iv 65), ent w.params "glyph" (iv g), ent w.params "cluster" (iv c)]) hG (so_info "cluster" (by simp)) rfl (Ex.name rfl ⟨_, rfl, ⟨hne, hx, rfl, by simp⟩, rfl, ?_⟩)
  refine Ss.put (es' := [ent w.params "code" (iv 65), ent w.params "glyph" (iv g), ent w.params "cluster" (iv c), ent w.params "mask" (iv 0)]) hG (so_info "mask" (by simp)) rfl (Ex.cint ⟨_, rfl, ⟨hne, hx, rfl, by simp⟩, rfl, ?_⟩)
  refine Ss.put (es' := [ent w.params "code" (iv 65), ent w.params "glyph" (iv g), ent w.params "cluster" (iv c), ent w.params "mask" (iv 0), ent w.params "is_unsafe" (.bool false)]) hG (so_info "is_unsafe" (by simp)) rfl (Ex.cbool ⟨_, rfl, ⟨hne, hx, rfl, by simp⟩, rfl, ?_⟩)
  refine Ss.put (es' := [ent w.params "code" (iv 65), ent w.params "glyph" (iv g), ent w.params "cluster" (iv c), ent w.params "mask" (iv 0), ent w.params "is_unsafe" (.bool false), ent w.params "lig_id" (iv 0)]) hG (so_info "lig_id" (by simp)) rfl (Ex.cint ⟨_, rfl, ⟨hne, hx, rfl, by simp⟩, rfl, ?_⟩)
  refine Ss.put (es' := [ent w.params "code" (iv 65), ent w.params "glyph" (iv g), ent w.params "cluster" (iv c), ent w.params "mask" (iv 0), ent w.params "is_unsafe" (.bool false), ent w.params "lig_id" (iv 0), ent w.params "lig_part" (iv 0)]) hG (so_info "lig_part" (by simp)) rfl (Ex.cint ⟨_, rfl, ⟨hne, hx, rfl, by simp⟩, rfl, ?_⟩)
  refine Ss.put (es' := [ent w.params "code" (iv 65), ent w.params "glyph" (iv g), ent w.params "cluster" (iv c), ent w.params "mask" (iv 0), ent w.params "is_unsafe" (.bool false), ent w.params "lig_id" (iv 0), ent w.params "lig_part" (iv 0), ent w.params "lig_count" (iv 0)]) hG (so_info "lig_count" (by simp)) rfl (Ex.cint ⟨_, rfl, ⟨hne, hx, rfl, by simp⟩, rfl, ?_⟩)
  refine Ss.put (es' := [ent w.params "code" (iv 65), ent w.params "glyph" (iv g), ent w.params "cluster" (iv c), ent w.params "mask" (iv 0), ent w.params "is_unsafe" (.bool false), ent w.params "lig_id" (iv 0), ent w.params "lig_part" (iv 0), ent w.params "lig_count" (iv 0), ent w.params "kind" (sv "")]) hG (so_info "kind" (by simp)) rfl (Ex.cstr ⟨_, rfl, ⟨hne, hx, rfl, by simp⟩, rfl, ?_⟩)
  refine Ss.put (es' := [ent w.params "code" (iv 65), ent w.params "glyph" (iv g), ent w.params "cluster" (iv c), ent w.params "mask" (iv 0), ent w.params "is_unsafe" (.bool false), ent w.params "lig_id" (iv 0), ent w.params "lig_part" (iv 0), ent w.params "lig_count" (iv 0), ent w.params "kind" (sv ""), ent w.params "x_advance" (iv 0)]) hG (so_info "x_advance" (by simp)) rfl (Ex.cint ⟨_, rfl, ⟨hne, hx, rfl, by simp⟩, rfl, ?_⟩)
  refine Ss.put (es' := [ent w.params "code" (iv 65), ent w.params "glyph" (iv g), ent w.params "cluster" (iv c), ent w.params "mask" (iv 0), ent w.params "is_unsafe" (.bool false), ent w.params "lig_id" (iv 0), ent w.params "lig_part" (iv 0), ent w.params "lig_count" (iv 0), ent w.params "kind" (sv ""), ent w.params "x_advance" (iv 0), ent w.params "y_advance" (iv 0)]) hG (so_info "y_advance" (by simp)) rfl (Ex.cint ⟨_, rfl, ⟨hne, hx, rfl, by simp⟩, rfl, ?_⟩)
  refine Ss.put (es' := [ent w.params "code" (iv 65), ent w.params "glyph" (iv g), ent w.params "cluster" (iv c), ent w.params "mask" (iv 0), ent w.params "is_unsafe" (.bool false), ent w.params "lig_id" (iv 0), ent w.params "lig_part" (iv 0), ent w.params "lig_count" (iv 0), ent w.params "kind" (sv ""), ent w.params "x_advance" (iv 0), ent w.params "y_advance" (iv 0), ent w.params "x_offset" (iv 0)]) hG (so_info "x_offset" (by simp)) rfl (Ex.cint ⟨_, rfl, ⟨hne, hx, rfl, by simp⟩, rfl, ?_⟩)
  refine Ss.put (es' := [ent w.params "code" (iv 65), ent w.params "glyph" (iv g), ent w.params "cluster" (iv c), ent w.params "mask" (iv 0), ent w.params "is_unsafe" (.bool false), ent w.params "lig_id" (iv 0), ent w.params "lig_part" (iv 0), ent w.params "lig_count" (iv 0), ent w.params "kind" (sv ""), ent w.params "x_advance" (iv 0), ent w.params "y_advance" (iv 0), ent w.params "x_offset" (iv 0), ent w.params "y_offset" (iv 0)]) hG (so_info "y_offset" (by simp)) rfl (Ex.cint ⟨_, rfl, ⟨hne, hx, rfl, by simp⟩, rfl, ?_⟩)
  refine Ss.put (es' := [ent w.params "code" (iv 65), ent w.params "glyph" (iv g), ent w.params "cluster" (iv c), ent w.params "mask" (iv 0), ent w.params "is_unsafe" (.bool false), ent w.params "lig_id" (iv 0), ent w.params "lig_part" (iv 0), ent w.params "lig_count" (iv 0), ent w.params "kind" (sv ""), ent w.params "x_advance" (iv 0), ent w.params "y_advance" (iv 0), ent w.params "x_offset" (iv 0), ent w.params "y_offset" (iv 0), ent w.params "parent" (iv 0)]) hG (so_info "parent" (by simp)) rfl (Ex.cint ⟨_, rfl, ⟨hne, hx, rfl, by simp⟩, rfl, ?_⟩)
  refine Ss.put (es' := [ent w.params "code" (iv 65), ent w.params "glyph" (iv g), ent w.params "cluster" (iv c), ent w.params "mask" (iv 0), ent w.params "is_unsafe" (.bool false), ent w.params "lig_id" (iv 0), ent w.params "lig_part" (iv 0), ent w.params "lig_count" (iv 0), ent w.params "kind" (sv ""), ent w.params "x_advance" (iv 0), ent w.params "y_advance" (iv 0), ent w.params "x_offset" (iv 0), ent w.params "y_offset" (iv 0), ent w.params "parent" (iv 0), ent w.params "bond" (sv "")]) hG (so_info "bond" (by simp)) rfl (Ex.cstr ⟨_, rfl, ⟨hne, hx, rfl, by simp⟩, rfl, ?_⟩)
  exact Ss.nil h
theorem so_cls {P : Params} : SetOk (KK P) 185 "classes" := ⟨by k_is, by k_is, by k_is, by k_is⟩
theorem so_gdef {P : Params} (n : PySem.Str) (h : n ∈ (["classes", "attach", "sets", "points", "carets"] : List PySem.Str)) : SetOk (KK P) 233 n := by
  simp only [List.mem_cons, List.not_mem_nil, or_false] at h
  rcases h with rfl | rfl | rfl | rfl | rfl <;> exact ⟨by k_is, by k_is, by k_is, by k_is⟩
theorem so_buf {P : Params} (n : PySem.Str) (h : n ∈ (["row", "is_backward", "last_lig"] : List PySem.Str)) : SetOk (KK P) 98 n := by
  simp only [List.mem_cons, List.not_mem_nil, or_false] at h
  rcases h with rfl | rfl | rfl <;> exact ⟨by k_is, by k_is, by k_is, by k_is⟩
theorem cls_init_spec {x d D : Addr} {P : Value → Fh → Prop} (hG : (GG w h₀).Ok) (hA : Rm 1 A) (hne : x ≠ d) (hx : f x = some (.inst 185 d)) (h : P .none (fset f d (.dict [ent w.params "classes" (.ref D)]))) :
    Cd (GG w h₀) A (fset f d (.dict [])) 156 [.ref x, .ref D] P := by
  refine Cd.enter2 (n₁ := "self") (n₂ := "classes") hG hA (ho_lit (by dsimp only; k_is) rfl) (by dsimp only; k_is) fun L hA => ?_
  refine Ss.put (es' := [ent w.params "classes" (.ref D)]) hG so_cls rfl (Ex.name rfl ⟨_, rfl, ⟨hne, hx, rfl, by simp⟩, rfl, ?_⟩)
  exact Ss.nil h
theorem buf_init_spec {x d rl : Addr} {back : Bool} {P : Value → Fh → Prop} (hG : (GG w h₀).Ok) (hA : Rm 1 A) (hne : x ≠ d) (hx : f x = some (.inst 98 d)) (h : P .none (fset f d (.dict [ent w.params "row" (.ref rl), ent w.params "is_backward" (.bool back), ent w.params "last_lig" (iv 0)]))) :
    Cd (GG w h₀) A (fset f d (.dict [])) 71 [.ref x, .ref rl, .bool back] P := by
  refine Cd.enter (eb := [("self", .ref x), ("infos", .ref rl), ("is_backward", .bool back)]) hG (ho_lit (by dsimp only; k_is) rfl) (by dsimp only; k_is) hA.room
    (fun us e => ?_) rfl fun L => ?_
  · obtain ⟨u₂, u₃, u₄, rfl, e₂, e₃, e₄⟩ := map3 e
    refine ⟨[("self", u₂), ("infos", u₃), ("is_backward", u₄)], fun s X => binds_K X rfl (by dsimp only; k_is) rfl rfl rfl, ?_⟩
    simp only [List.map_cons, List.map_nil, e₂, e₃, e₄]
  refine Ss.put (es' := [ent w.params "row" (.ref rl)]) hG (so_buf "row" (by simp)) rfl (Ex.name rfl ⟨_, rfl, ⟨hne, hx, rfl, by simp⟩, rfl, ?_⟩)
  refine Ss.put (es' := [ent w.params "row" (.ref rl), ent w.params "is_backward" (.bool back)]) hG (so_buf "is_backward" (by simp)) rfl (Ex.name rfl ⟨_, rfl, ⟨hne, hx, rfl, by simp⟩, rfl, ?_⟩)
  refine Ss.put (es' := [ent w.params "row" (.ref rl), ent w.params "is_backward" (.bool back), ent w.params "last_lig" (iv 0)]) hG (so_buf "last_lig" (by simp)) rfl (Ex.cint ⟨_, rfl, ⟨hne, hx, rfl, by simp⟩, rfl, ?_⟩)
  exact Ss.nil h
theorem gdef_init_spec {x d c c2 s : Addr} {P : Value → Fh → Prop} (hG : (GG w h₀).Ok) (hA : Rm 1 A) (hne : x ≠ d) (hx : f x = some (.inst 233 d))
    (h : ∀ p q, f p = none → f q = none → p ≠ q → P .none (fset (fset (fset f p (.idict [])) q (.idict [])) d (.dict [ent w.params "classes" (.ref c), ent w.params "attach" (.ref c2), ent w.params "sets" (.ref s), ent w.params "points" (.ref p), ent w.params "carets" (.ref q)]))) :
    Cd (GG w h₀) A (fset f d (.dict [])) 204 [.ref x, .ref c, .ref c2, .ref s] P := by
  refine Cd.enter (eb := [("self", .ref x), ("classes", .ref c), ("attach", .ref c2), ("sets", .ref s), ("points", .none), ("carets", .none)]) hG (ho_lit (by dsimp only; k_is) rfl) (by dsimp only; k_is) hA.room
    (fun us e => ?_) rfl fun L => ?_
  · obtain ⟨u₁, us', rfl, e₁, e'⟩ := mapc e
    obtain ⟨u₂, u₃, u₄, rfl, e₂, e₃, e₄⟩ := map3 e'
    refine ⟨[("self", u₁), ("classes", u₂), ("attach", u₃), ("sets", u₄), ("points", .none), ("carets", .none)], fun s X => binds_K X rfl (by dsimp only; k_is) rfl rfl rfl, ?_⟩
    simp only [List.map_cons, List.map_nil, e₁, e₂, e₃, e₄]; rfl
  refine Ss.put (es' := [ent w.params "classes" (.ref c)]) hG (so_gdef "classes" (by simp)) rfl (Ex.name rfl ⟨_, rfl, ⟨hne, hx, rfl, by simp⟩, rfl, ?_⟩)
  refine Ss.put (es' := [ent w.params "classes" (.ref c), ent w.params "attach" (.ref c2)]) hG (so_gdef "attach" (by simp)) rfl (Ex.name rfl ⟨_, rfl, ⟨hne, hx, rfl, by simp⟩, rfl, ?_⟩)
  refine Ss.put (es' := [ent w.params "classes" (.ref c), ent w.params "attach" (.ref c2), ent w.params "sets" (.ref s)]) hG (so_gdef "sets" (by simp)) rfl (Ex.name rfl ⟨_, rfl, ⟨hne, hx, rfl, by simp⟩, rfl, ?_⟩)
  refine Ss.put' hG (so_gdef "points" (by simp)) rfl (Ex.ite (Ts.cmp (Ex.name (v := .none) rfl (Ex.cnone (Co.isNone ⟨_, rfl, ?_⟩)))))
  rw [if_pos (show (Value.none == Value.none) = true by rfl)]
  refine Ex.dictI fun p hp => ?_
  have hpd : p ≠ d := by rintro rfl; rw [fset_self] at hp; cases hp
  have hp' : f p = none := by rw [fset_ne hpd] at hp; exact hp
  have hxp : x ≠ p := by rintro rfl; rw [hx] at hp'; cases hp'
  refine ⟨fset f p (.idict []), [ent w.params "classes" (.ref c), ent w.params "attach" (.ref c2), ent w.params "sets" (.ref s), ent w.params "points" (.ref p)], fset_comm hpd.symm, ⟨hne, by rw [fset_ne hxp]; exact hx, rfl, by simp⟩, rfl, ?_⟩
  refine Ss.put' hG (so_gdef "carets" (by simp)) rfl (Ex.ite (Ts.cmp (Ex.name (v := .none) rfl (Ex.cnone (Co.isNone ⟨_, rfl, ?_⟩)))))
  rw [if_pos (show (Value.none == Value.none) = true by rfl)]
  refine Ex.dictI fun q hq => ?_
  have hqd : q ≠ d := by rintro rfl; rw [fset_self] at hq; cases hq
  have hqp : q ≠ p := by rintro rfl; rw [fset_ne hqd, fset_self] at hq; cases hq
  have hq' : f q = none := by rw [fset_ne hqd, fset_ne hqp] at hq; exact hq
  have hxq : x ≠ q := by rintro rfl; rw [hx] at hq'; cases hq'
  refine ⟨fset (fset f p (.idict [])) q (.idict []), [ent w.params "classes" (.ref c), ent w.params "attach" (.ref c2), ent w.params "sets" (.ref s), ent w.params "points" (.ref p), ent w.params "carets" (.ref q)], fset_comm hqd.symm, ⟨hne, by rw [fset_ne hxq, fset_ne hxp]; exact hx, rfl, by simp⟩, rfl, ?_⟩
  exact Ss.nil (h p q hp' hq' hqp.symm)

end Mine

namespace Mine
-- W9
set_option maxRecDepth 100000
set_option maxHeartbeats 2000000
theorem fillit9 : (PySem.Challenge.rw_nu0162_01 = PySem.Challenge.rw_nu0162_01) ∧ (∀ P, KK P = KK P) := by
  k_fill
  exact ⟨rfl, fun _ => rfl⟩
variable {w : World} {h₀ : Heap} {A : Around} {f f' : Fh}
/-- the pen of the script, drawn from n times at the most -/
def IsPen (f : Fh) (p c : Addr) (n : Nat) : Prop := ∃ (cs : List Int) (spot great : Int), IsL f p [.ref c, iv spot, iv great] ∧ IsL f c (cs.map iv) ∧ c ≠ p ∧ cs.length ≤ 40 ∧ 0 ≤ spot ∧ spot ≤ n
theorem IsPen.mono {p c : Addr} {n k : Nat} (h : IsPen f p c n) (q : n ≤ k) : IsPen f p c k := by
  obtain ⟨cs, s, g, a, b, d, e, e', e''⟩ := h; exact ⟨cs, s, g, a, b, d, e, e', by omega⟩
theorem Ex.at {X : Cx} {m : Loc} {f : Fh} {P : Value → Fh → Prop} {x : PySem.Str} {px cp pos : Pos} {l : Addr} {k : Int} {kk : Nat} {xs : List Value} {v : Value} (hm : m x = some (.ref l)) (hl : IsL f l xs) (h0 : 0 ≤ k) (h1 : k < 2 ^ 63) (hv : xs[k.toNat]? = some v) (h : P v f)
    (hk : X.env.scope.kind = .function := by rfl) (hlx : X.env.kindOf x = some .local := by rfl) (hdx : (x == ("__debug__" : PySem.Str)) = false := by decide)
    (hs : ∀ o v : Value, subscripted (.Constant (.int k) kk cp) false o v = operate [o, v] (getItem o v) := by intro _ _; rfl) : Ex X m f (.Subscript (.Name x px) (.Constant (.int k) kk cp) pos) P :=
  Ex.sub (Ex.name hm (Ex.cint ⟨l, k, xs, v, rfl, rfl, hl, h0, h1, hv, h⟩) hk hlx hdx) hs
section
variable {X : Cx} {m : Loc} {P : Value → Fh → Prop} {o : Expr} {sp cp pos : Pos} {kk : Nat}
theorem PartOk.no {P : Option Int → Fh → Prop} (h : P none f) : PartOk X m f none P := h
theorem PartOk.yes {P : Option Int → Fh → Prop} {e : Expr} (h : Ex X m f e fun v f₁ => ∃ i, v = iv i ∧ P (some i) f₁) : PartOk X m f (some e) P := h
theorem Ex.upto {k : Nat} {ops : Value → Value → List Value} (h : Ex X m f o fun v f₁ => ∃ l xs, v = .ref l ∧ IsL f₁ l xs ∧ xs.length ≤ 1000000 ∧ ∀ D, f₁ D = none → P (.ref D) (fset f₁ D (.list (xs.take k))))
    (hs : ∀ v w : Value, subscripted (.Slice none (some (.Constant (.int k) kk cp)) none sp) false v w = operate (ops v w) (getItem v w) := by intro _ _; rfl) : Ex X m f (.Subscript o (.Slice none (some (.Constant (.int k) kk cp)) none sp) pos) P :=
  Ex.slice (h.mono fun v f₁ ⟨l, xs, e, hl, hz, p⟩ => PartOk.no (PartOk.yes (Ex.cint ⟨k, rfl, PartOk.no ⟨by decide, l, xs, e, hl, hz, fun D hD => by rw [pickL_upto]; exact p D hD⟩⟩))) hs
theorem Ex.fromK {k : Nat} {ops : Value → Value → List Value} (h : Ex X m f o fun v f₁ => ∃ l xs, v = .ref l ∧ IsL f₁ l xs ∧ xs.length ≤ 1000000 ∧ ∀ D, f₁ D = none → P (.ref D) (fset f₁ D (.list (xs.drop k))))
    (hs : ∀ v w : Value, subscripted (.Slice (some (.Constant (.int k) kk cp)) none none sp) false v w = operate (ops v w) (getItem v w) := by intro _ _; rfl) : Ex X m f (.Subscript o (.Slice (some (.Constant (.int k) kk cp)) none none sp) pos) P :=
  Ex.slice (h.mono fun v f₁ ⟨l, xs, e, hl, hz, p⟩ => PartOk.yes (Ex.cint ⟨k, rfl, PartOk.no (PartOk.no ⟨by decide, l, xs, e, hl, hz, fun D hD => by rw [pickL_from]; exact p D hD⟩)⟩)) hs
end
theorem Ts.mono {X : Cx} {m : Loc} {f : Fh} {e : Expr} {P P' : Bool → Fh → Prop} (h : Ts X m f e P) (k : ∀ c f', P c f' → P' c f') : Ts X m f e P' := Tr.mono h fun _ _ _ ⟨a, b⟩ => ⟨a, k _ _ b⟩
theorem ifB {c : Bool} {a b : Prop} (ha : a) (hb : b) : if c = true then a else b := by cases c; exact hb; exact ha
theorem ite_both {X : Cx} {m : Loc} {f : Fh} {b o rest : List Stmt} {P : Flow → Loc → Fh → Prop} {c : Bool} (I : Loc → Fh → Prop) (hk : ∀ m' f', I m' f' → Ss X m' f' rest P)
    (hb : c = true → Ss X m f b fun fl m' f' => fl = .next ∧ I m' f') (ho : c = false → Ss X m f o fun fl m' f' => fl = .next ∧ I m' f') : if c = true then Ss X m f b (andThen X rest P) else Ss X m f o (andThen X rest P) := by
  cases c
  · rw [if_neg (by decide)]; exact (ho rfl).mono fun v m f ⟨e, i⟩ => by subst e; exact andNext (hk _ _ i)
  · rw [if_pos rfl]; exact (hb rfl).mono fun v m f ⟨e, i⟩ => by subst e; exact andNext (hk _ _ i)
theorem draw_spec {p c : Addr} {n : Nat} {many : Int} {P : Value → Fh → Prop} (hG : (GG w h₀).Ok) (hA : Rm 1 A) (hp : IsPen f p c n) (hn : n ≤ 1000) (hm : 1 ≤ many) (hm2 : many < 64)
    (h : ∀ d f', 0 ≤ d → d < many → Ext [p] f f' → IsPen f' p c (n + 1) → P (iv d) f') : Cd (GG w h₀) A f 249 [.ref p, iv many] P := by
  obtain ⟨cs, spot, great, hl, hc, hne, hlen, hs0, hs1⟩ := hp
  refine Cd.enter2 (n₁ := "pen") (n₂ := "many") hG hA (ho_lit (by dsimp only; k_is) rfl) (by dsimp only; k_is) fun L hA => ?_
  refine Ss.cond (Ts.cmp (Ex.at rfl hl (by decide) (by decide) rfl (Ex.cint (Co.gt ⟨_, rfl, ?_⟩))))
  by_cases hg : 0 < great
  · rw [if_pos (by simpa using hg)]
    refine Ss.name (Ex.binop (Ex.callT hG bi_int (Ar.cons (Ex.at rfl hl (by decide) (by decide) rfl (Ar.nil (Ca.int (Ex.name (v := iv many) rfl (Bo.mod (by omega) ?_))))))))
    refine Ss.cons (St1.item (Ex.binop (Ex.callT hG bi_int (Ar.cons (Ex.at rfl hl (by decide) (by decide) rfl (Ar.nil (Ca.int (Ex.name (v := iv many) rfl (Bo.fdiv (by omega) (by omega) ?_)))))))))
    refine Ex.name rfl (Ex.cint ⟨p, _, 2, rfl, rfl, hl, by decide, by simp, by simp, andNext ?_⟩)
    refine Ss.ret (Ex.name (v := iv (great.fmod many)) rfl (h _ _ (Int.fmod_nonneg_of_pos _ (by omega)) (Int.fmod_lt_of_pos _ (by omega)) (Ext.set (.head _)) ⟨cs, spot, _, .inr fset_self, hc.keep (fset_ne hne), hne, hlen, hs0, by omega⟩))
  rw [if_neg (by simpa using hg)]
  refine Ss.nilA ?_
  refine Ss.name (Ex.at rfl hl (by decide) (by decide) rfl ?_)
  refine Ss.cons (St1.item (Ex.binop (Ex.name (v := iv spot) rfl (Ex.cint (Bo.add (Ex.name rfl (Ex.cint ⟨p, _, 1, rfl, rfl, hl, by decide, by simp, by simp, andNext ?_⟩)))))))
  have e₁ : Ext [p] f (fset f p (.vec ([.ref c, iv spot, iv great].set (Int.toNat 1) (iv (spot + 1))))) := Ext.set (.head _)
  have hl₁ : IsL (fset f p (.vec ([.ref c, iv spot, iv great].set (Int.toNat 1) (iv (spot + 1))))) p [.ref c, iv (spot + 1), iv great] := .inr fset_self
  have hc₁ : IsL (fset f p (.vec ([.ref c, iv spot, iv great].set (Int.toNat 1) (iv (spot + 1))))) c (cs.map iv) := hc.keep (fset_ne hne)
  generalize fset f p (.vec ([.ref c, iv spot, iv great].set (Int.toNat 1) (iv (spot + 1)))) = f₁ at *
  refine Ss.name (Ex.binop (Ex.binop (Ex.binop (Ex.cint (Ex.name (v := iv spot) rfl (Bo.mul (IntMulOk.of_left (by decide)) (Ex.cint (Bo.add ?_))))))))
  refine Ex.binop (Ex.callT hG bi_int (Ar.cons (Ex.callF hG bi_sum (Ar.cons (Ex.upto (k := 1) (Ex.at rfl hl₁ (by decide) (by decide) rfl ?_))))))
  refine ⟨c, _, rfl, hc₁, by rw [List.length_map]; omega, fun D hD => ?_⟩
  have hD₁ : IsL (fset f₁ D (.list ((cs.map iv).take 1))) D ((cs.take 1).map iv) := .inl (by rw [fset_self, List.map_take])
  have e₂ : Ext [p] f (fset f₁ D (.list ((cs.map iv).take 1))) := e₁.trans (Ext.new hD)
  have hl₂ := (Ext.new hD (M := []) (c := .list ((cs.map iv).take 1))).isL hl₁ List.not_mem_nil
  have hc₂ := (Ext.new hD (M := []) (c := .list ((cs.map iv).take 1))).isL hc₁ List.not_mem_nil
  generalize fset f₁ D (.list ((cs.map iv).take 1)) = f₂ at *
  refine Ar.nil (Ca.sum hA.h hD₁ fun i => Ar.nil (Ca.int (Ex.cint (Bo.mod (by decide) (Bo.add ?_)))))
  generalize (20947 * spot + 3571 + i.fmod 1000003 : Int) = cell
  refine Ss.cond (Ts.cmp (Ex.at rfl hl₂ (by decide) (by decide) rfl (Ex.list (Ar.nil ⟨by simp, fun D hD => ?_⟩))))
  have hD₃ : IsL (fset f₂ D (.list [])) D (([] : List Int).map iv) := .inl fset_self
  have e₃ : Ext [p] f (fset f₂ D (.list [])) := e₂.trans (Ext.new hD)
  have hl₃ := (Ext.new hD (M := []) (c := .list [])).isL hl₂ List.not_mem_nil
  have hc₃ := (Ext.new hD (M := []) (c := .list [])).isL hc₂ List.not_mem_nil
  generalize fset f₂ D (.list []) = f₃ at *
  refine Co.neInts hA.line hc₃ hD₃ ⟨_, rfl, ?_⟩
  refine ite_both (fun m₂ f₂ => f₂ = f₃ ∧ m₂ "pen" = some (.ref p) ∧ m₂ "many" = some (iv many) ∧ m₂ "spot" = some (iv spot) ∧ ∃ cell, m₂ "cell" = some (iv cell)) ?_ (fun hb => ?_) (fun _ => Ss.nil ⟨rfl, rfl, rfl, rfl, rfl, cell, rfl⟩)
  rotate_left
  · have hcs : cs ≠ [] := by simpa using hb
    have hpos : 0 < cs.length := List.length_pos_iff.mpr hcs
    refine Ss.name (Ex.sub (Ex.at rfl hl₃ (by decide) (by decide) rfl (Ex.binop (Ex.callT hG bi_int (Ar.cons (Ex.name (v := iv spot) rfl (Ar.nil (Ca.int (Ex.callF hG bi_len (Ar.cons (Ex.at rfl hl₃ (by decide) (by decide) rfl (Ar.nil (Ca.len hc₃ (by rw [List.length_map]; omega) (Bo.mod (by rw [List.length_map]; omega) ?_))))))))))))))
    rw [List.length_map]
    have h1 := Int.fmod_nonneg_of_pos spot (show (0 : Int) < (cs.length : Int) by omega)
    have h2 := Int.fmod_lt_of_pos spot (show (0 : Int) < (cs.length : Int) by omega)
    generalize spot.fmod (cs.length : Int) = k at *
    have hk : cs[k.toNat]? = some (cs[k.toNat]'(by omega)) := List.getElem?_eq_getElem _
    generalize cs[k.toNat]'(by omega) = x at hk
    exact ⟨c, k, cs.map iv, iv x, rfl, rfl, hc₃, h1, by omega, by rw [List.getElem?_map, hk]; rfl, Ss.nil ⟨rfl, rfl, rfl, rfl, rfl, x, rfl⟩⟩
  rintro m₂ f₄ ⟨rfl, hpen, hmany, hspot, cell, hcell⟩
  refine Ss.cond (Ts.mono (P := fun _ f' => f₄ = f') ?_ fun c₂ f' e => ?_)
  · refine Ts.and2 (Ts.cmp (Ex.name (v := iv spot) hspot (Ex.callF hG bi_len (Ar.cons (Ex.at hpen hl₃ (by decide) (by decide) rfl (Ar.nil (Ca.len hc₃ (by rw [List.length_map]; omega) (Co.lt ⟨_, rfl, ?_⟩))))))))
    refine ifB ?_ rfl
    · refine TrB.and1 (Ts.cmp (Ex.callF hG bi_abs (Ar.cons (Ex.name (v := iv cell) hcell (Ar.nil (Ca.abs (Ex.binop (Ex.cint (Ex.cint (Bo.pow (by decide) (by decide) (by decide) (Co.ge ⟨_, rfl, ?_⟩)))))))))))
      exact ifB (TrB.and0 rfl) rfl
  subst e
  cases c₂
  · rw [if_neg (by decide)]
    refine Ss.nilA ?_
    refine Ss.name (Ex.binop (Ex.callT hG bi_int (Ar.cons (Ex.binop (Ex.binop (Ex.binop (Ex.binop (Ex.callT hG bi_int (Ar.cons (Ex.name (v := iv cell) hcell (Ar.nil (Ca.int (Ex.cint (Bo.mod (by decide) (Ex.binop (Ex.cint (Ex.name (v := iv spot) hspot (Bo.mul (IntMulOk.of_left (by decide)) (Bo.add (Ex.cint (Bo.add ?_)))))))))))))))))))))
    have h1 := Int.fmod_nonneg_of_pos cell (show (0 : Int) < 2147483587 by decide)
    have h2 := Int.fmod_lt_of_pos cell (show (0 : Int) < 2147483587 by decide)
    refine Ex.cint (Bo.pow (by decide) (by decide) (by omega) (Ar.nil (Ca.int (Ex.cint (Bo.mod (by decide) ?_)))))
    generalize ((cell.fmod 2147483587 + 20947 * spot + 3571) ^ Int.toNat 5 : Int) = st0
    have h3 := Int.fmod_nonneg_of_pos st0 (show (0 : Int) < 2147483629 by decide)
    have h4 := Int.fmod_lt_of_pos st0 (show (0 : Int) < 2147483629 by decide)
    generalize st0.fmod 2147483629 = st at *
    have hmany' : mset m₂ "stirred" (iv st) "many" = some (iv many) := hmany
    have hspot' : mset m₂ "stirred" (iv st) "spot" = some (iv spot) := hspot
    have hst : mset m₂ "stirred" (iv st) "stirred" = some (iv st) := rfl
    generalize mset m₂ "stirred" (iv st) = m₃ at *
    refine Ss.name (Ex.binop (Ex.callT hG bi_int (Ar.cons (Ex.binop (Ex.binop (Ex.binop (Ex.binop (Ex.name (v := iv st) hst (Ex.binop (Ex.binop (Ex.cint (Ex.name (v := iv spot) hspot' (Bo.mul (IntMulOk.of_left (by decide)) (Ex.cint (Bo.add (Bo.mul (IntMulOk.of_left (intBits_le_64 (by omega) (by omega))) (Ex.binop (Ex.binop (Ex.cint (Ex.name (v := iv spot) hspot' (Bo.mul (IntMulOk.of_left (by decide)) (Ex.name (v := iv spot) hspot' (Bo.mul (IntMulOk.of_right (intBits_le_64 (by omega) (by omega))) (Bo.add (Ex.cint (Bo.add ?_))))))))))))))))))))))))))
    have h5 : (st * (2 * spot + 7207) + 20947 * spot * spot + 31).natAbs < 2 ^ 64 := by
      have a1 : st * (2 * spot + 7207) ≤ 2147483629 * (2 * 1000 + 7207) := Int.mul_le_mul (by omega) (by omega) (by omega) (by omega)
      have a2 : 0 ≤ st * (2 * spot + 7207) := Int.mul_nonneg (by omega) (by omega)
      have a3 : 20947 * spot * spot ≤ 20947 * 1000 * 1000 := Int.mul_le_mul (by omega) (by omega) (by omega) (by omega)
      have a4 : 0 ≤ 20947 * spot * spot := Int.mul_nonneg (by omega) (by omega)
      generalize st * (2 * spot + 7207) = u at *
      generalize 20947 * spot * spot = v at *
      omega
    refine Ex.cint (Bo.pow (by decide) (by decide) h5 (Ar.nil (Ca.int (Ex.cint (Bo.mod (by decide) ?_)))))
    generalize ((st * (2 * spot + 7207) + 20947 * spot * spot + 31) ^ Int.toNat 3 : Int).fmod 2147483579 = st1
    refine Ss.ret (Ex.binop (Ex.callT hG bi_int (Ar.cons (Ex.binop (Ex.name (v := iv st1) rfl (Ex.cint (Bo.fdiv (by decide) (by decide) (Ar.nil (Ca.int (Ex.name (v := iv many) hmany' (Bo.mod (by omega) ?_)))))))))))
    exact h _ _ (Int.fmod_nonneg_of_pos _ (by omega)) (Int.fmod_lt_of_pos _ (by omega)) e₃ ⟨cs, spot + 1, great, hl₃, hc₃, hne, hlen, by omega, by omega⟩
  · rw [if_pos rfl]
    refine Ss.name (Ex.binop (Ex.binop (Ex.cint (Ex.binop (Ex.callF hG bi_abs (Ar.cons (Ex.name (v := iv cell) hcell (Ar.nil (Ca.abs (Ex.binop (Ex.cint (Ex.cint (Bo.pow (by decide) (by decide) (by decide) (Bo.sub (Bo.mul (IntMulOk.of_left (by decide)) ?_)))))))))))))))
    refine Ex.callT hG bi_int (Ar.cons (Ex.cmp (Ex.name (v := iv cell) hcell (Ex.cint (Co.lt (Ar.nil (Ca.intb (Bo.add ?_))))))))
    generalize (2 * ((if cell < 0 then -cell else cell) - 10 ^ Int.toNat 18) + if decide (cell < 0) = true then 1 else 0 : Int) = gr
    have hpen' : mset m₂ "great" (iv gr) "pen" = some (.ref p) := hpen
    have hmany' : mset m₂ "great" (iv gr) "many" = some (iv many) := hmany
    have hgreat' : mset m₂ "great" (iv gr) "great" = some (iv gr) := rfl
    generalize mset m₂ "great" (iv gr) = m₃ at *
    refine Ss.cons (St1.item (Ex.binop (Ex.callT hG bi_int (Ar.cons (Ex.name (v := iv gr) hgreat' (Ar.nil (Ca.int (Ex.name (v := iv many) hmany' (Bo.fdiv (by omega) (by omega) ?_)))))))))
    refine Ex.name (v := .ref p) hpen' (Ex.cint ⟨p, _, 2, rfl, rfl, hl₃, by decide, by simp, by simp, andNext ?_⟩)
    refine Ss.ret (Ex.binop (Ex.callT hG bi_int (Ar.cons (Ex.name (v := iv gr) hgreat' (Ar.nil (Ca.int (Ex.name (v := iv many) hmany' (Bo.mod (by omega) ?_))))))))
    exact h _ _ (Int.fmod_nonneg_of_pos _ (by omega)) (Int.fmod_lt_of_pos _ (by omega)) (e₃.trans (Ext.set (.head _))) ⟨cs, spot + 1, _, .inr fset_self, hc₃.keep (fset_ne hne), hne, hlen, by omega, by omega⟩

end Mine

namespace Mine
-- W10
set_option maxRecDepth 100000
set_option maxHeartbeats 2000000
theorem fillit10 : (PySem.Challenge.rw_nu0162_01 = PySem.Challenge.rw_nu0162_01) ∧ (∀ P, KK P = KK P) := by
  k_fill
  exact ⟨rfl, fun _ => rfl⟩
variable {w : World} {h₀ : Heap} {A : Around} {f f' : Fh}
theorem df_pen {P : Params} : DefOk (KK P) "_law_pen" 242 := ⟨by k_is, by k_is⟩
theorem df_draw {P : Params} : DefOk (KK P) "_law_draw" 249 := ⟨by k_is, by k_is⟩
theorem df_pick {P : Params} : DefOk (KK P) "_law_pick" 256 := ⟨by k_is, by k_is⟩
theorem df_row {P : Params} : DefOk (KK P) "_law_row" 263 := ⟨by k_is, by k_is⟩
theorem df_due {P : Params} : DefOk (KK P) "_law_due" 268 := ⟨by k_is, by k_is⟩
theorem df_info {P : Params} : DefOk (KK P) "Info" 52 := ⟨by k_is, by k_is⟩
theorem cls_info {P : Params} : ClsOk (KK P) 52 35 := ⟨by k_is, by k_is, by k_is⟩
theorem Ext.gone {a : Addr} (e : Ext [] f f') (h : f' a = none) : f a = none := by
  cases q : f a with
  | none => rfl
  | some c => rw [e a c q List.not_mem_nil] at h; cases h
theorem pen_spec {sc : Addr} {is : List Int} {P : Value → Fh → Prop} (hG : (GG w h₀).Ok) (hA : Rm 1 A) (hl : BaseL h₀ sc (is.map iv)) (hz : is.length ≤ 63)
    (h : ∀ p c f', f p = none → f c = none → Ext [] f f' → IsPen f' p c 0 → P (.ref p) f') : Cd (GG w h₀) A f 242 [.ref sc] P := by
  refine Cd.enter1 (n₁ := "script") hG hA (ho_lit (by dsimp only; k_is) rfl) (by dsimp only; k_is) fun L hA => ?_
  refine Ss.ret (Ex.list (Ar.cons (Ex.comp (Ex.sliceG (Ex.name (v := .ref sc) rfl (PartOk.no (PartOk.yes (Ex.cint ⟨(40 : Nat), rfl, PartOk.no ⟨by decide, sc, _, rfl, BaseL.ll (G := GG w h₀) hl, by rw [List.length_map]; omega, fun D hD => ?_⟩⟩))))) (closureFor_none (by decide)))))
  rw [pickL_upto, ← List.map_take]
  have hlen : (is.take 40).length ≤ 40 := List.length_take_le ..
  have e₁ : Ext [] f (fset f D (.list ((is.take 40).map iv))) := Ext.new hD
  have hD₁ : IsL (fset f D (.list ((is.take 40).map iv))) D ((is.take 40).map iv) := .inl fset_self
  generalize is.take 40 = cs at *
  generalize fset f D (.list (cs.map iv)) = f₁ at *
  refine ⟨D, cs.map iv, _, fun i acc f₂ => f₂ = f₁ ∧ acc = (cs.take i).map iv, rfl, Src.list hA.h hD₁, by rw [List.length_map]; omega, ⟨rfl, rfl⟩, fun i acc f₂ ⟨e, e'⟩ => ⟨by rw [e]; exact hD₁, by rw [e', List.length_map, List.length_take]; omega⟩, ?_, ?_⟩
  · rintro i u acc _ C m₀ hu ⟨rfl, rfl⟩
    rw [List.getElem?_map] at hu
    obtain ⟨x, hx, rfl⟩ := Option.map_eq_some_iff.mp hu
    refine tests0 ?_
    rw [if_pos rfl]
    refine Ex.callT hG bi_int (Ar.cons (Ex.name (v := iv x) rfl (Ar.nil (Ca.int ⟨rfl, ?_⟩))))
    rw [List.take_add_one, hx]; simp
  rintro acc _ ⟨rfl, rfl⟩ D₂ hD₂
  rw [List.length_map, List.take_of_length_le (Nat.le_refl _)]
  refine Ar.cons (Ex.cint (Ar.cons (Ex.cint (Ar.nil ⟨by simp, fun p hp => ?_⟩))))
  have hne : D₂ ≠ p := by rintro rfl; rw [fset_self] at hp; cases hp
  exact h p D₂ _ (e₁.gone (by rw [fset_ne hne.symm] at hp; exact hp)) (e₁.gone hD₂) ((e₁.trans (Ext.new hD₂)).trans (Ext.new hp)) ⟨cs, 0, 0, .inl fset_self, .inl (by rw [fset_ne hne, fset_self]), hne, hlen, by decide, by decide⟩
theorem pick_spec {p c s : Addr} {n : Nat} {vs : List Value} {P : Value → Fh → Prop} (hG : (GG w h₀).Ok) (hA : Rm 2 A) (hp : IsPen f p c n) (hn : n ≤ 1000) (hl : IsL f s vs) (h0 : vs ≠ []) (hz : vs.length < 64) (hps : s ≠ p)
    (h : ∀ v f', v ∈ vs → Ext [p] f f' → IsPen f' p c (n + 1) → P v f') : Cd (GG w h₀) A f 256 [.ref p, .ref s] P := by
  refine Cd.enter2 (n₁ := "pen") (n₂ := "some") hG hA (ho_lit (by dsimp only; k_is) rfl) (by dsimp only; k_is) fun L hA => ?_
  have hpos : 0 < vs.length := List.length_pos_iff.mpr h0
  refine Ss.ret (Ex.sub (Ex.name rfl (Ex.callD hG df_draw (Ar.cons (Ex.name rfl (Ar.cons (Ex.callF hG bi_len (Ar.cons (Ex.name rfl (Ar.nil (Ca.len hl (by omega) (Ar.nil (Ca.def ?_)))))))))))))
  refine draw_spec hG hA hp hn (by omega) (by omega) fun d f' h0 h1 e q => ?_
  have hk : vs[d.toNat]? = some (vs[d.toNat]'(by omega)) := List.getElem?_eq_getElem _
  exact ⟨s, d, vs, _, rfl, rfl, e.isL hl (by simpa using hps), h0, by omega, hk, h _ _ (List.mem_of_getElem? hk) e q⟩

end Mine

namespace Mine
-- W11
set_option maxRecDepth 100000
set_option maxHeartbeats 2000000
theorem fillit11 : (PySem.Challenge.rw_nu0162_01 = PySem.Challenge.rw_nu0162_01) ∧ (∀ P, KK P = KK P) := by
  k_fill
  exact ⟨rfl, fun _ => rfl⟩
variable {w : World} {h₀ : Heap} {A : Around} {f f' f'' : Fh}
theorem Ext.off {M : List Addr} {a : Addr} {c : Cel} (e : Ext M f f') (h : f a = none) : Ext M f (fset f' a c) := fun b c' q n => by
  rw [fset_ne (by rintro rfl; rw [h] at q; cases q)]; exact e b c' q n
theorem IsPen.ne {p c a : Addr} {n : Nat} (h : IsPen f p c n) (k : ∀ xs, ¬ IsL f a xs) : a ≠ p := by
  obtain ⟨cs, s, g, a, _⟩ := h; rintro rfl; exact k _ a
theorem IsPen.keep {p c a : Addr} {n : Nat} {o : Cel} (h : IsPen f p c n) (k : ∀ xs, ¬ IsL f a xs) : IsPen (fset f a o) p c n := by
  obtain ⟨cs, s, g, h1, h2, h3⟩ := h
  exact ⟨cs, s, g, h1.keep (fset_ne (by rintro rfl; exact k _ h1)), h2.keep (fset_ne (by rintro rfl; exact k _ h2)), h3⟩
theorem notL {a : Addr} {c : Cel} (e : f a = some c) (n : ∀ xs, c ≠ .list xs) (n' : ∀ xs, c ≠ .vec xs) : ∀ xs, ¬ IsL f a xs := fun xs h => by
  rcases h with h | h <;> (rw [e] at h; cases h)
  · exact n _ rfl
  · exact n' _ rfl
theorem noneL {a : Addr} (e : f a = none) : ∀ xs, ¬ IsL f a xs := fun xs h => by rcases h with h | h <;> (rw [e] at h; cases h)
/-- the row under way -/
structure Rs (w : World) (f : Fh) (p c l : Addr) (n : Nat) (ls : List Value) (R : Rw) (f' : Fh) : Prop where
  ext : Ext [p] f f'
  pen : IsPen f' p c n
  list : f' l = some (.list ls)
  row : Row w f' R
  new : ∀ r ∈ R, f r.2.1 = none
  hl : f l = none
  hlp : l ≠ p
  hlc : l ≠ c
theorem Row.pen {p c : Addr} {n : Nat} {R : Rw} (h : Row w f R) (hp : IsPen f p c n) (e : Ext [p] f f') : Row w f' R :=
  h.ext e fun r hr => ⟨by simpa using hp.ne (notL (h.2 r hr).1 (fun _ q => by cases q) (fun _ q => by cases q)), by simpa using hp.ne (notL (h.2 r hr).2 (fun _ q => by cases q) (fun _ q => by cases q))⟩
section
variable {p c l : Addr} {n : Nat} {ls : List Value} {R : Rw}
theorem Rs.draw (h : Rs w f p c l n ls R f') (e : Ext [p] f' f'') (hp : IsPen f'' p c (n + 1)) : Rs w f p c l (n + 1) ls R f'' :=
  ⟨h.ext.trans e, hp, e _ _ h.list (by simpa using h.hlp), h.row.pen h.pen e, h.new, h.hl, h.hlp, h.hlc⟩
theorem Rs.fresh (h : Rs w f p c l n ls R f') {D : Addr} {o : Cel} (hD : f' D = none) : Rs w f p c l n ls R (fset f' D o) :=
  ⟨h.ext.trans (Ext.new hD), h.pen.keep (noneL hD), by rw [fset_ne (by rintro rfl; have := h.list; rw [hD] at this; cases this)]; exact h.list, h.row.ext (M := []) (Ext.new hD) fun _ _ => ⟨List.not_mem_nil, List.not_mem_nil⟩, h.new, h.hl, h.hlp, h.hlc⟩
theorem Rs.last {x d : Addr} {y : Inf} (h : Rs w f p c l n ls (R ++ [(x, d, y)]) f') : IsInfo w f' x d y := h.row.2 _ (List.mem_append_right _ (.head _))
theorem Rs.set {x d : Addr} {y y' : Inf} (h : Rs w f p c l n ls (R ++ [(x, d, y)]) f') : Rs w f p c l n ls (R ++ [(x, d, y')]) (fset f' d (.dict (infoEs w.params y'))) := by
  have hd : f d = none := h.new _ (List.mem_append_right _ (.head _))
  refine ⟨h.ext.off hd, h.pen.keep (notL h.last.2 (fun _ q => by cases q) (fun _ q => by cases q)), by rw [fset_ne (by rintro rfl; have := h.list.symm.trans h.last.2; cases this)]; exact h.list, ?_, ?_, h.hl, h.hlp, h.hlc⟩
  · have h1 := h.row.1
    refine ⟨by rw [List.map_append] at h1 ⊢; exact h1, fun r hr => ?_⟩
    rcases List.mem_append.mp hr with q | q
    · refine IsInfo.upd (h.row.2 r (List.mem_append_left _ q)) h.last ?_
      rw [List.map_append, List.nodup_append] at h1
      exact h1.2.2 _ (List.mem_map_of_mem q) _ (by simp)
    · rw [List.mem_singleton] at q; subst q; exact IsInfo.self h.last
  · intro r hr
    rcases List.mem_append.mp hr with q | q
    · exact h.new r (List.mem_append_left _ q)
    · rw [List.mem_singleton] at q; subst q; exact hd
theorem Rs.one {x d : Addr} {y : Inf} (h : Rs w f p c l n ls R f') (hx : f' x = none) (hd : f' d = none) (hne : x ≠ d) : Rs w f p c l n ls (R ++ [(x, d, y)]) (fset (fset f' x (.inst 52 d)) d (.dict (infoEs w.params y))) := by
  have a := (h.fresh (o := .inst 52 d) hx).fresh (o := .dict (infoEs w.params y)) (D := d) (by rw [fset_ne hne.symm]; exact hd)
  have hd0 : f d = none := by
    cases q : f d with
    | none => rfl
    | some c =>
      have hdp : d ≠ p := h.pen.ne (noneL hd)
      have := h.ext d c q (by simpa using hdp)
      rw [hd] at this; cases this
  refine ⟨a.ext, a.pen, a.list, ⟨?_, fun r hr => ?_⟩, fun r hr => ?_, h.hl, h.hlp, h.hlc⟩
  · rw [List.map_append, List.nodup_append]
    refine ⟨h.row.1, by simp, fun b hb c hc => ?_⟩
    simp only [List.map_cons, List.map_nil, List.mem_singleton] at hc
    subst hc
    rintro rfl
    obtain ⟨r, hr, e⟩ := List.mem_map.mp hb
    have := (h.row.2 r hr).2; rw [e, hd] at this; cases this
  · rcases List.mem_append.mp hr with q | q
    · exact a.row.2 r q
    · rw [List.mem_singleton] at q; subst q; exact ⟨by show fset _ _ _ x = _; rw [fset_ne hne, fset_self], fset_self⟩
  · rcases List.mem_append.mp hr with q | q
    · exact h.new r q
    · rw [List.mem_singleton] at q; subst q; exact hd0
theorem Rs.app {v : Value} (h : Rs w f p c l n ls R f') : Rs w f p c l n (ls ++ [v]) R (fset f' l (.list (ls ++ [v]))) :=
  ⟨h.ext.off h.hl, by
    obtain ⟨cs, s, g, h1, h2, h3⟩ := h.pen
    exact ⟨cs, s, g, h1.keep (fset_ne h.hlp.symm), h2.keep (fset_ne h.hlc.symm), h3⟩, fset_self,
   h.row.ext (M := [l]) (Ext.set (.head _)) fun r hr => ⟨fun q => Cel.noConfusion (Option.some.inj (h.list.symm.trans ((List.mem_singleton.mp q) ▸ (h.row.2 r hr).1))), fun q => Cel.noConfusion (Option.some.inj (h.list.symm.trans ((List.mem_singleton.mp q) ▸ (h.row.2 r hr).2)))⟩, h.new, h.hl, h.hlp, h.hlc⟩
end
theorem AsT.info {env : Env} {m : Loc} {o : Expr} {n : PySem.Str} {ap : Pos} {v : Value} {P : Loc → Fh → Prop} (hG : (GG w h₀).Ok)
    (h : Ex ⟨GG w h₀, A, env⟩ m f o fun u f₂ => ∃ a d x y, u = .ref a ∧ IsInfo w f₂ a d x ∧ n ∈ (["code", "glyph", "cluster", "mask", "is_unsafe", "lig_id", "lig_part", "lig_count", "kind", "x_advance", "y_advance", "x_offset", "y_offset", "parent", "bond"] : List PySem.Str) ∧
      (getL n (infoEs w.params x)).isSome = true ∧ putL n (PyData.keyHash w.params n) (sv n) v (infoEs w.params x) = infoEs w.params y ∧ P m (fset f₂ d (.dict (infoEs w.params y)))) :
    AsT ⟨GG w h₀, A, env⟩ m f (.Attribute o n ap) v P :=
  AsT.attr hG (h.mono fun u f₂ ⟨a, d, x, y, e, i, hn, hl, hp, p⟩ => ⟨a, 52, d, _, e, so_info n hn, i.1, i.2, hl, by simp, by
    show P m (fset f₂ d (.dict (putL n (PyData.keyHash w.params n) (sv n) v (infoEs w.params x)))); rw [hp]; exact p⟩)

end Mine

namespace Mine
-- W12
set_option maxRecDepth 100000
set_option maxHeartbeats 2000000
theorem fillit12 : (PySem.Challenge.rw_nu0162_01 = PySem.Challenge.rw_nu0162_01) ∧ (∀ P, KK P = KK P) := by
  k_fill
  exact ⟨rfl, fun _ => rfl⟩
variable {w : World} {h₀ : Heap} {A : Around} {f f' f'' : Fh}
/-- a draw inside a text -/
theorem Ex.draw {env : Env} {m : Loc} {p c : Addr} {n : Nat} {k : Int} {kk : Nat} {x y : Pos} {z cp : Pos} {P : Value → Fh → Prop} (hG : (GG w h₀).Ok) (hA : Rm 1 A) (ho : ∀ Q : Value → Fh → Prop, Q (.ref p) f → Ex ⟨GG w h₀, A, env⟩ m f (.Name "pen" y) Q) (hp : IsPen f p c n) (hn : n ≤ 1000) (h1 : 1 ≤ k) (h2 : k < 64)
    (h : ∀ d f', 0 ≤ d → d < k → Ext [p] f f' → IsPen f' p c (n + 1) → P (iv d) f')
    (hk : env.scope.kind = .function := by rfl) (hz : env.kindOf "_law_draw" = some .globalImplicit := by rfl) (hg : env.globals = mainGlobals := by rfl) : Ex ⟨GG w h₀, A, env⟩ m f (.Call (.Name "_law_draw" x) [.Name "pen" y, .Constant (.int k) kk z] [] cp) P :=
  Ex.callD (X := ⟨GG w h₀, A, env⟩) hG df_draw (Ar.cons (ho _ (Ar.cons (Ex.cint (Ar.nil (Ca.def (draw_spec hG hA hp hn h1 h2 h))))))) hk hz hg
theorem row_spec {p c : Addr} {n : Nat} {P : Value → Fh → Prop} (hG : (GG w h₀).Ok) (hA : Rm 3 A) (hp : IsPen f p c n) (hn : n ≤ 500)
    (h : ∀ l R f', R.length ≤ 8 → (∀ r ∈ R, PyData.strOk r.2.2.bond = true) → Rs w f p c l (n + 57) (refs R) R f' → P (.ref l) f') : Cd (GG w h₀) A f 263 [.ref p] P := by
  refine Cd.enter1 (n₁ := "pen") hG hA (ho_lit (by dsimp only; k_is) rfl) (by dsimp only; k_is) fun L hA => ?_
  refine Ss.cons (St1.tupS hA.h (Ex.tup (Ar.cons (Ex.list (Ar.nil ⟨by simp, fun l hl => Ar.cons (Ex.cint (Ar.nil ⟨by simp, fun T hT => ⟨T, _, _, rfl, fset_self, andNext ?_⟩⟩))⟩)))))
  have hlp : l ≠ p := by obtain ⟨cs, s, g, h1, _⟩ := hp; exact (h1.ne hl).symm
  have hlc : l ≠ c := by obtain ⟨cs, s, g, h1, h2, _⟩ := hp; exact (h2.ne hl).symm
  have h0 : Rs w f p c l n [] [] (fset f l (.list [])) := ⟨Ext.new hl, hp.keep (noneL hl), fset_self, ⟨.nil, fun _ q => (nomatch q)⟩, fun _ q => (nomatch q), hl, hlp, hlc⟩
  replace h0 := h0.fresh hT (o := .tup [.ref l, iv 0])
  generalize fset (fset f l (.list [])) T (.tup [.ref l, iv 0]) = f₁ at *
  refine Ss.cons (St1.for (Ex.callT hG bi_range (Ar.cons (Ex.draw hG (hA.mono (by decide)) (fun _ q => Ex.name rfl q) h0.pen (by omega) (by decide) (by decide) fun d f₂ d0 d1 e₂ p₂ => Ar.nil (Ca.range1 fun r hr => ?_)))))
  replace h0 := h0.draw e₂ p₂
  replace h0 := h0.fresh hr (o := .range 0 d)
  generalize hf₃ : fset f₂ r (.range 0 d) = f₃ at *
  refine ⟨r, _, _, fun k m₁ f₄ => ∃ R cl j, j = n + 1 + 7 * k ∧ m₁ "pen" = some (.ref p) ∧ m₁ "found" = some (.ref l) ∧ m₁ "cluster" = some (iv cl) ∧ R.length = k ∧ (∀ r ∈ R, PyData.strOk r.2.2.bond = true) ∧ Rs w f p c l j (refs R) R f₄, rfl, Src.range hA.h (by rw [← hf₃, fset_self]) d0 (by decide) (by omega) rfl, ⟨[], 0, _, rfl, rfl, rfl, rfl, rfl, fun _ q => (nomatch q), h0⟩, fun _ _ _ _ => trivial, ?_, ?_⟩
  rotate_left
  · rintro m' f' ⟨R, cl, j, hj, h1, h2, h3, h4, hbo, h5⟩
    rw [List.length_map, List.length_range] at h4 hj
    refine andNext (Ss.ret (Ex.name (v := .ref l) h2 (h l R f' (by omega) hbo ⟨h5.ext, h5.pen.mono (by omega), h5.list, h5.row, h5.new, h5.hl, h5.hlp, h5.hlc⟩)))
  · rintro k u m₁ f₄ hu ⟨R, cl, j, hj, hm1, hm2, hm3, hR, hbo, hs⟩
    have hk : (k : Int) < d := by
      have := (List.getElem?_eq_some_iff.mp hu).1
      rw [List.length_map, List.length_range] at this; omega
    rw [List.getElem?_map, List.getElem?_range (by omega)] at hu
    cases hu
    have hn1 : j + 7 ≤ 1000 := by omega
    have hm1' : mset m₁ "lap" (iv (0 + (k : Int))) "pen" = some (.ref p) := hm1
    have hm2' : mset m₁ "lap" (iv (0 + (k : Int))) "found" = some (.ref l) := hm2
    have hm3' : mset m₁ "lap" (iv (0 + (k : Int))) "cluster" = some (iv cl) := hm3
    have hm4' : mset m₁ "lap" (iv (0 + (k : Int))) "lap" = some (iv (0 + (k : Int))) := rfl
    generalize mset m₁ "lap" (iv (0 + (k : Int))) = m₂ at *
    generalize (0 + (k : Int)) = lap at *
    refine Ss.name (Ex.callD hG df_info (Ar.cons (Ex.cint (Ar.cons (Ex.draw hG (hA.mono (by decide)) (fun _ q => Ex.name hm1' q) hs.pen (by omega) (by decide) (by decide) fun gl f₅ g0 g1 e₅ p₅ => Ar.cons (Ex.name (v := iv cl) hm3' (Ar.nil (Ca.cls (k := 1) hG (hA.mono (by decide)) cls_info fun A₁ x d hA₁ hx hd hne => ?_))))))))
    rw [fset_comm hne.symm]
    refine info_init_spec hG hA₁ hne fset_self ⟨rfl, ?_⟩
    replace hs := hs.draw e₅ p₅
    replace hs := hs.one (y := ⟨gl, cl, 0, false, 0, 0, 0, 0, 0, ""⟩) hx hd hne
    generalize fset (fset f₅ x (.inst 52 d)) d (.dict (infoEs w.params ⟨gl, cl, 0, false, 0, 0, 0, 0, 0, ""⟩)) = f₆ at *
    have o1 : mset m₂ "one" (.ref x) "pen" = some (.ref p) := hm1'
    have o2 : mset m₂ "one" (.ref x) "found" = some (.ref l) := hm2'
    have o3 : mset m₂ "one" (.ref x) "cluster" = some (iv cl) := hm3'
    have o4 : mset m₂ "one" (.ref x) "lap" = some (iv lap) := hm4'
    have o5 : mset m₂ "one" (.ref x) "one" = some (.ref x) := rfl
    generalize mset m₂ "one" (.ref x) = m₃ at *
    clear e₂ p₂ e₅ p₅
    refine Ss.info hG (Ex.callD hG df_pick (Ar.cons (Ex.name (v := .ref p) o1 (Ar.cons (Ex.list (Ar.cons (Ex.cint (Ar.cons (Ex.cint (Ar.cons (Ex.cint (Ar.cons (Ex.cint (Ar.cons (Ex.cint (Ar.nil ⟨by simp, fun D hD => Ar.nil (Ca.def ?_)⟩))))))))))))))))
    have hDp : D ≠ p := hs.pen.ne (noneL hD)
    replace hs := hs.fresh hD (o := .list [iv 3, iv 2, iv 6, iv 1, iv 3])
    refine pick_spec hG (hA.mono (by decide)) hs.pen (by omega) (.inl fset_self) (by simp) (by simp) hDp fun v f₇ hv e₇ p₇ => Ex.name (v := .ref x) o5 ?_
    replace hs := hs.draw e₇ p₇
    obtain ⟨mk, rfl⟩ : ∃ mk, v = iv mk := by
      simp only [List.mem_cons, List.not_mem_nil, or_false] at hv
      rcases hv with rfl | rfl | rfl | rfl | rfl <;> exact ⟨_, rfl⟩
    refine ⟨x, d, _, ⟨gl, cl, mk, false, 0, 0, 0, 0, 0, ""⟩, rfl, hs.last, by simp, rfl, rfl, ?_⟩
    replace hs := hs.set (y' := ⟨gl, cl, mk, false, 0, 0, 0, 0, 0, ""⟩)
    generalize fset f₇ d (.dict (infoEs w.params ⟨gl, cl, mk, false, 0, 0, 0, 0, 0, ""⟩)) = f₈ at *
    clear e₇ p₇ hv
    refine Ss.cons (St1.tup (Ex.tup (Ar.cons (Ex.binop (Ex.cint (Ex.name (v := iv lap) o4 (Bo.mul (IntMulOk.of_left (by decide)) (Ar.cons (Ex.name (v := iv lap) o4 (Ar.cons (Ex.binop (Ex.draw hG (hA.mono (by decide)) (fun _ q => Ex.name o1 q) hs.pen (by omega) (by decide) (by decide) fun xo f₉ _ _ e₉ p₉ => Ex.cint (Bo.sub (Ar.cons (Ex.cint (Ar.nil ⟨by simp, fun T hT => ?_⟩))))))))))))))))
    replace hs := (hs.draw e₉ p₉).fresh hT (o := .tup [iv (10 * lap), iv lap, iv (xo - 1), iv 7])
    refine AsT.tup hA.h fset_self rfl (AsL.cons (AsT.info hG (Ex.name (v := .ref x) o5 ⟨x, d, _, ⟨gl, cl, mk, false, 10 * lap, 0, 0, 0, 0, ""⟩, rfl, hs.last, by simp, rfl, rfl, ?_⟩)))
    replace hs := hs.set (y' := ⟨gl, cl, mk, false, 10 * lap, 0, 0, 0, 0, ""⟩)
    refine AsL.cons (AsT.info hG (Ex.name (v := .ref x) o5 ⟨x, d, _, ⟨gl, cl, mk, false, 10 * lap, lap, 0, 0, 0, ""⟩, rfl, hs.last, by simp, rfl, rfl, ?_⟩))
    replace hs := hs.set (y' := ⟨gl, cl, mk, false, 10 * lap, lap, 0, 0, 0, ""⟩)
    refine AsL.cons (AsT.info hG (Ex.name (v := .ref x) o5 ⟨x, d, _, ⟨gl, cl, mk, false, 10 * lap, lap, xo - 1, 0, 0, ""⟩, rfl, hs.last, by simp, rfl, rfl, ?_⟩))
    replace hs := hs.set (y' := ⟨gl, cl, mk, false, 10 * lap, lap, xo - 1, 0, 0, ""⟩)
    refine AsL.cons (AsT.info hG (Ex.name (v := .ref x) o5 ⟨x, d, _, ⟨gl, cl, mk, false, 10 * lap, lap, xo - 1, 7, 0, ""⟩, rfl, hs.last, by simp, rfl, rfl, AsL.nil (andNext ?_)⟩))
    replace hs := hs.set (y' := ⟨gl, cl, mk, false, 10 * lap, lap, xo - 1, 7, 0, ""⟩)
    generalize fset _ d (.dict (infoEs w.params ⟨gl, cl, mk, false, 10 * lap, lap, xo - 1, 7, 0, ""⟩)) = f₁₀ at *
    clear e₉ p₉
    refine Ss.cons (St1.tup (Ex.tup (Ar.cons (Ex.binop (Ex.draw hG (hA.mono (by decide)) (fun _ q => Ex.name o1 q) hs.pen (by omega) (by decide) (by decide) fun pa f₁₁ _ _ e₁₁ p₁₁ => Ex.cint (Bo.sub (Ar.cons (Ex.callD hG df_pick (Ar.cons (Ex.name (v := .ref p) o1 (Ar.cons (Ex.list (Ar.cons (Ex.cstr (Ar.cons (Ex.cstr (Ar.nil ⟨by simp, fun D hD => Ar.nil (Ca.def ?_)⟩)))))))))))))))))
    replace hs := hs.draw e₁₁ p₁₁
    have hDp : D ≠ p := hs.pen.ne (noneL hD)
    replace hs := hs.fresh hD (o := .list [sv "", sv "mark"])
    refine pick_spec hG (hA.mono (by decide)) hs.pen (by omega) (.inl fset_self) (by simp) (by simp) hDp fun v f₁₂ hv e₁₂ p₁₂ => Ar.nil ⟨by simp, fun T hT => ?_⟩
    replace hs := (hs.draw e₁₂ p₁₂).fresh hT (o := .tup [iv (pa - 1), v])
    obtain ⟨bo, rfl, hbo'⟩ : ∃ bo, v = sv bo ∧ PyData.strOk bo = true := by
      simp only [List.mem_cons, List.not_mem_nil, or_false] at hv
      rcases hv with rfl | rfl <;> exact ⟨_, rfl, by decide +kernel⟩
    refine AsT.tup hA.h fset_self rfl (AsL.cons (AsT.info hG (Ex.name (v := .ref x) o5 ⟨x, d, _, ⟨gl, cl, mk, false, 10 * lap, lap, xo - 1, 7, pa - 1, ""⟩, rfl, hs.last, by simp, rfl, rfl, ?_⟩)))
    replace hs := hs.set (y' := ⟨gl, cl, mk, false, 10 * lap, lap, xo - 1, 7, pa - 1, ""⟩)
    refine AsL.cons (AsT.info hG (Ex.name (v := .ref x) o5 ⟨x, d, _, ⟨gl, cl, mk, false, 10 * lap, lap, xo - 1, 7, pa - 1, bo⟩, rfl, hs.last, by simp, rfl, rfl, AsL.nil (andNext ?_)⟩))
    replace hs := hs.set (y' := ⟨gl, cl, mk, false, 10 * lap, lap, xo - 1, 7, pa - 1, bo⟩)
    generalize fset _ d (.dict (infoEs w.params ⟨gl, cl, mk, false, 10 * lap, lap, xo - 1, 7, pa - 1, bo⟩)) = f₁₃ at *
    clear e₁₁ p₁₁ e₁₂ p₁₂ hv
    refine Ss.set_un hG (Ex.cmp (Ex.draw hG (hA.mono (by decide)) (fun _ q => Ex.name o1 q) hs.pen (by omega) (by decide) (by decide) fun un f₁₄ _ _ e₁₄ p₁₄ => Ex.cint (Co.eq (Ex.name (v := .ref x) o5 ?_))))
    replace hs := hs.draw e₁₄ p₁₄
    refine ⟨x, d, _, un == 0, rfl, rfl, hs.last, ?_⟩
    replace hs := hs.set (y' := Inf.s_un ⟨gl, cl, mk, false, 10 * lap, lap, xo - 1, 7, pa - 1, bo⟩ (un == 0))
    replace hbo' : PyData.strOk (Inf.s_un ⟨gl, cl, mk, false, 10 * lap, lap, xo - 1, 7, pa - 1, bo⟩ (un == 0)).bond = true := hbo'
    generalize Inf.s_un ⟨gl, cl, mk, false, 10 * lap, lap, xo - 1, 7, pa - 1, bo⟩ (un == 0) = y at *
    generalize fset _ d (.dict (infoEs w.params y)) = f₁₅ at *
    refine Ss.expr (Ex.meth hG (Ex.name (v := .ref l) o2 ⟨_, _, keep_builtin, meth_append hs.list, Ar.cons (Ex.name (v := .ref x) o5 (Ar.nil (Ca.append hs.list (by rw [List.length_map]; omega) ⟨rfl, ?_⟩)))⟩))
    replace hs := hs.app (v := .ref x)
    generalize fset _ l (.list (refs R ++ [.ref x])) = f₁₆ at *
    refine Ss.name (Ex.binop (Ex.name (v := iv cl) o3 (Ex.draw hG (hA.mono (by decide)) (fun _ q => Ex.name o1 q) hs.pen (by omega) (by decide) (by decide) fun dc f₁₇ _ _ e₁₇ p₁₇ => Bo.add (Ss.nil ⟨rfl, R ++ [(x, d, y)], cl + dc, j + 7, by omega, o1, o2, rfl, by rw [List.length_append, hR]; rfl, fun r hr => ?_, ?_⟩))))
    · rcases List.mem_append.mp hr with q | q
      · exact hbo r q
      · rw [List.mem_singleton] at q; subst q; exact hbo'
    replace hs := hs.draw e₁₇ p₁₇
    rw [show refs (R ++ [(x, d, y)]) = refs R ++ [.ref x] from List.map_append ..]
    exact hs

end Mine

namespace Mine
-- W13
set_option maxRecDepth 100000
set_option maxHeartbeats 2000000
theorem fillit13 : (PySem.Challenge.rw_nu0162_01 = PySem.Challenge.rw_nu0162_01) ∧ (∀ P, KK P = KK P) := by
  k_fill
  exact ⟨rfl, fun _ => rfl⟩
variable {w : World} {h₀ : Heap} {A : Around} {f f' f'' : Fh}
theorem Ca.listOfRange2 {X : Cx} {m : Loc} {P : Value → Fh → Prop} {r : Addr} {a n : Nat} (hh : X.A.handled = none) (hr : f r = some (.range a n)) (h0 : a ≤ n) (hz : n ≤ 1000000) (h : ∀ D, f D = none → P (.ref D) (fset f D (.list ((List.range' a (n - a)).map fun i => iv (i : Nat))))) : Ca X m f (.type "list") [.ref r] P := fun us q s R => by
  obtain ⟨u, rfl, e⟩ := map1 q; cases er_ref e
  obtain ⟨t, u, v, g⟩ := R.holds _ _ hr
  refine call_list_range (n := n - a) hh g (small_one (by omega) (by omega) (by omega) (by omega)) (by rw [rangeSize_one]; split <;> omega) (by omega) fun h' tk acc c' hk hD hi => ?_
  refine Out.newE (c := .list ((List.range' a (n - a)).map fun i => iv (i : Nat))) R hk nosize ⟨acc.toList, c', by rw [Array.toArray_toList]; exact hD, ?_⟩ h
  obtain ⟨hs, hi⟩ := hi
  apply List.ext_getElem?
  intro i
  rw [List.getElem?_map, List.getElem?_map]
  by_cases hlt : i < n - a
  · obtain ⟨v, hv⟩ : ∃ v, acc[i]? = some v := ⟨acc[i]'(by omega), by simp [hs, hlt]⟩
    obtain ⟨t, rfl⟩ := hi i v hv
    rw [List.getElem?_range' hlt, Array.getElem?_toList, hv]
    simp [er]
  · rw [List.getElem?_eq_none (by simp; omega), List.getElem?_eq_none (by simp; omega)]; rfl
theorem pickL_revE {xs : List Value} : pickL xs none none (some (-1)) = xs.reverse := pickL_rev
/-- what _law_due reads -/
structure Dc (w : World) (f : Fh) (c₁ c₂ il ml p : Addr) (R : Rw) (mk : List Int) (xs : List (List Int × Addr × Value)) : Prop where
  cell₁ : f c₁ = some (.cell (some (.ref il)))
  cell₂ : f c₂ = some (.cell (some (.ref ml)))
  il : IsL f il (refs R)
  row : Row w f R
  ml : IsL f ml (mk.map iv)
  p : f p = some (.pdict xs)
  keys : KeysAt f xs
section
variable {c₁ c₂ il ml p : Addr} {R : Rw} {mk : List Int} {xs : List (List Int × Addr × Value)}
theorem Dc.ext (C : Dc w f c₁ c₂ il ml p R mk xs) (e : Ext [] f f') : Dc w f' c₁ c₂ il ml p R mk xs :=
  ⟨e _ _ C.cell₁ List.not_mem_nil, e _ _ C.cell₂ List.not_mem_nil, e.isL C.il List.not_mem_nil, C.row.ext e fun _ _ => ⟨List.not_mem_nil, List.not_mem_nil⟩, e.isL C.ml List.not_mem_nil, e _ _ C.p List.not_mem_nil,
   fun x hx => e _ _ (C.keys x hx) List.not_mem_nil⟩
theorem Ex.infAt {env : Env} {m : Loc} {P : Value → Fh → Prop} {y : PySem.Str} {px py pos : Pos} {i : Nat} {r : Addr × Addr × Inf} (C : Dc w f c₁ c₂ il ml p R mk xs) (hz : R.length ≤ 1000) (hm : m y = some (iv (i : Nat))) (hr : R[i]? = some r) (h : P (.ref r.1) f)
    (hc : env.cells.lookup ("infos" : PySem.Str) = some c₁ := by rfl) (hk : env.scope.kind = .function := by rfl) (hl : env.kindOf "infos" = some .cell := by rfl) (hy : env.kindOf y = some .local := by rfl) (hd : (y == ("__debug__" : PySem.Str)) = false := by decide)
    (hs : ∀ o v : Value, subscripted (.Name y py) false o v = operate [o, v] (getItem o v) := by intro _ _; rfl) : Ex ⟨GG w h₀, A, env⟩ m f (.Subscript (.Name "infos" px) (.Name y py) pos) P :=
  Ex.sub (X := ⟨GG w h₀, A, env⟩) (Ex.cell (X := ⟨GG w h₀, A, env⟩) hc C.cell₁ (Ex.name (X := ⟨GG w h₀, A, env⟩) hm ⟨il, i, _, _, rfl, rfl, C.il, Int.natCast_nonneg _, by have := (List.getElem?_eq_some_iff.mp hr).1; omega, by rw [Int.toNat_natCast, refs_get, hr]; rfl, h⟩ hk hy hd) hk hl) hs
theorem Ex.infoAt {env : Env} {m : Loc} {P : Value → Fh → Prop} {y n : PySem.Str} {px py pos pos' : Pos} {i : Nat} {r : Addr × Addr × Inf} {u : Value} (hG : (GG w h₀).Ok) (C : Dc w f c₁ c₂ il ml p R mk xs) (hz : R.length ≤ 1000) (hm : m y = some (iv (i : Nat))) (hr : R[i]? = some r)
    (hn : n ∈ (["glyph", "cluster", "mask", "is_unsafe", "x_advance", "y_advance", "x_offset", "y_offset", "parent", "bond"] : List PySem.Str)) (hu : getL n (infoEs w.params r.2.2) = some (some u)) (hh : handedIn u = true) (h : P u f)
    (hc : env.cells.lookup ("infos" : PySem.Str) = some c₁ := by rfl) (hk : env.scope.kind = .function := by rfl) (hl : env.kindOf "infos" = some .cell := by rfl) (hy : env.kindOf y = some .local := by rfl) (hd : (y == ("__debug__" : PySem.Str)) = false := by decide)
    (hs : ∀ o v : Value, subscripted (.Name y py) false o v = operate [o, v] (getItem o v) := by intro _ _; rfl)
    (he : eval (.Attribute (.Subscript (.Name "infos" px) (.Name y py) pos) n pos') env = (do let v ← eval (.Subscript (.Name "infos" px) (.Name y py) pos) env; standAt pos'.atName; let r ← holding [v] (getAttr v n true); letTemporaryGo (.Subscript (.Name "infos" px) (.Name y py) pos) v r; pure r) := by rfl) :
    Ex ⟨GG w h₀, A, env⟩ m f (.Attribute (.Subscript (.Name "infos" px) (.Name y py) pos) n pos') P :=
  Ex.info hG (Ex.infAt C hz hm hr ⟨r.1, r.2.1, r.2.2, u, rfl, C.row.get hr, hn, hu, hh, h⟩ hc hk hl hy hd hs) he
end
/-- a row of due -/
abbrev tri (x : Inf) : List Value := [iv x.xa, iv x.xo, .bool x.un]
structure Du (f₀ f' : Fh) (dl : Addr) (As : List Addr) (g : Nat → Inf → Inf) (R : Rw) : Prop where
  ext : Ext [] f₀ f'
  isl : IsL f' dl (As.map .ref)
  len : As.length = R.length
  nd : As.Nodup
  new : ∀ a ∈ As, f₀ a = none
  ne : dl ∉ As
  at_ : ∀ (i : Nat) (a : Addr) (r : Addr × Addr × Inf), As[i]? = some a → R[i]? = some r → IsL f' a (tri (g i r.2.2))
section
variable {f₀ : Fh} {dl : Addr} {As : List Addr} {g g' : Nat → Inf → Inf} {R : Rw}
theorem Du.has (D : Du f₀ f' dl As g R) {a : Addr} (h : a ∈ As) : ∃ c, f' a = some c := by
  obtain ⟨i, hi⟩ := List.mem_iff_getElem?.mp h
  have hlt := (List.getElem?_eq_some_iff.mp hi).1
  exact (D.at_ i a (R[i]'(by rw [← D.len]; exact hlt)) hi (List.getElem?_eq_getElem _)).ex
theorem Du.keep (D : Du f₀ f' dl As g R) (e : Ext [] f₀ f'') (k : ∀ a, a ∈ dl :: As → f'' a = f' a) : Du f₀ f'' dl As g R :=
  ⟨e, D.isl.keep (k _ (.head _)), D.len, D.nd, D.new, D.ne, fun i a r h h' => (D.at_ i a r h h').keep (k _ (.tail _ (List.mem_of_getElem? h)))⟩
theorem Du.some (D : Du f₀ f' dl As g R) {a : Addr} (h : a ∈ dl :: As) : ∃ c, f' a = some c := by
  rcases List.mem_cons.mp h with rfl | h
  · exact D.isl.ex
  · exact D.has h
theorem Du.fresh (D : Du f₀ f' dl As g R) {a : Addr} {c : Cel} (h : f' a = none) : Du f₀ (fset f' a c) dl As g R :=
  D.keep (D.ext.trans (Ext.new h)) fun b hb => fset_ne (by rintro rfl; obtain ⟨c, e⟩ := D.some hb; rw [h] at e; cases e)
theorem Du.del (D : Du f₀ f' dl As g R) {a : Addr} (h : f₀ a = none) (h' : a ∉ dl :: As) : Du f₀ (fdel f' a) dl As g R :=
  D.keep (fun b c e n => by rw [fdel_ne (by rintro rfl; rw [h] at e; cases e)]; exact D.ext b c e n) fun b hb => fdel_ne (by rintro rfl; exact h' hb)
theorem Du.fun (D : Du f₀ f' dl As g R) (h : ∀ (i : Nat) (r : Addr × Addr × Inf), R[i]? = Option.some r → g' i r.2.2 = g i r.2.2) : Du f₀ f' dl As g' R :=
  ⟨D.ext, D.isl, D.len, D.nd, D.new, D.ne, fun i a r k k' => by rw [h i r k']; exact D.at_ i a r k k'⟩
theorem Du.set (D : Du f₀ f' dl As g R) {i : Nat} {a : Addr} {vs : List Value} (hi : As[i]? = Option.some a) (h1 : ∀ r, R[i]? = Option.some r → vs = tri (g' i r.2.2)) (h2 : ∀ j r, R[j]? = Option.some r → j ≠ i → g' j r.2.2 = g j r.2.2) : Du f₀ (fset f' a (.vec vs)) dl As g' R := by
  have ha := List.mem_of_getElem? hi
  refine ⟨D.ext.off (D.new a ha), D.isl.keep (fset_ne (by rintro rfl; exact D.ne ha)), D.len, D.nd, D.new, D.ne, fun j b r h h' => ?_⟩
  by_cases q : j = i
  · subst q; rw [hi] at h; cases h
    rw [h1 r h']; exact .inr fset_self
  · have : b ≠ a := by
      rintro rfl
      have hlt := (List.getElem?_eq_some_iff.mp h).1
      exact q ((List.getElem?_inj hlt D.nd).mp (h.trans hi.symm))
    rw [h2 j r h' q]; exact (D.at_ j b r h h').keep (fset_ne this)
end
/-- a step of _law_due -/
noncomputable def dueS (R : Rw) (pv : Int → Int → Int) (mask : Int) (ij : Nat × Nat) (n : Nat) (x : Inf) : Inf :=
  if worth R pv mask ij.1 ij.2 = 0 then x else hangG (min ij.1 ij.2) (max ij.1 ij.2 + 1) (lst (clus R (min ij.1 ij.2) (max ij.1 ij.2))) n (putG ij.1 ij.2 (worth R pv mask ij.1 ij.2) n x)
noncomputable def dueG (R : Rw) (pv : Int → Int → Int) (mask : Int) (D : List (Nat × Nat)) (n : Nat) (x : Inf) : Inf := D.foldl (fun y ij => dueS R pv mask ij n y) x
theorem dueG_snoc (R : Rw) (pv : Int → Int → Int) (mask : Int) (D : List (Nat × Nat)) (ij : Nat × Nat) (n : Nat) (x : Inf) : dueG R pv mask (D ++ [ij]) n x = dueS R pv mask ij n (dueG R pv mask D n x) := by
  unfold dueG; rw [List.foldl_append]; rfl
theorem dueS_same (R : Rw) (pv : Int → Int → Int) (mask : Int) (ij : Nat × Nat) (n : Nat) (x : Inf) : SameI (dueS R pv mask ij n x) x := by
  unfold dueS; split
  · exact .refl _
  · exact (hangG_same ..).trans (putG_same ..)
theorem dueG_same (R : Rw) (pv : Int → Int → Int) (mask : Int) (D : List (Nat × Nat)) (n : Nat) (x : Inf) : SameI (dueG R pv mask D n x) x := by
  unfold dueG
  induction D generalizing x with
  | nil => exact .refl _
  | cons d D ih => exact (ih _).trans (dueS_same ..)

end Mine

namespace Mine
-- L2
set_option maxRecDepth 100000
set_option maxHeartbeats 2000000
theorem U_lt {R : Rw} {cl : Int → Int} {i : Nat} (h : i ∈ U R cl 0) : i < R.length := by
  unfold U at h
  have := (List.mem_filter.mp h).1
  rw [List.mem_range'_1] at this; omega
theorem U_sorted (R : Rw) (cl : Int → Int) : (U R cl 0).Pairwise (· < ·) := by
  unfold U
  exact (List.pairwise_lt_range' (s := 0) (n := R.length - 0)).filter _
theorem prs_mem {l : List Nat} {r : Nat → Nat → Prop} (h : l.Pairwise r) : ∀ ij ∈ prs l, ij.1 ∈ l ∧ ij.2 ∈ l ∧ r ij.1 ij.2 := by
  induction l with
  | nil => intro _ q; cases q
  | cons a l ih =>
    cases l with
    | nil => intro _ q; cases q
    | cons b l =>
      intro ij q
      rw [prs_two] at q
      have h2 := List.pairwise_cons.mp h
      rcases List.mem_cons.mp q with rfl | q
      · exact ⟨.head _, .tail _ (.head _), h2.1 b (.head _)⟩
      · obtain ⟨x, y, z⟩ := ih h2.2 ij q
        exact ⟨.tail _ x, .tail _ y, z⟩
theorem prs_map (g : Nat → Nat) (l : List Nat) : prs (l.map g) = (prs l).map fun ij => (g ij.1, g ij.2) := by
  unfold prs
  rw [← List.map_tail, List.zip_map]; rfl
theorem allG_due {R : Rw} {pv : Int → Int → Int} {mask : Int} : ∀ (D : List (Nat × Nat)), (∀ ij ∈ D, ij.1 < ij.2) → ∀ n x, allG R pv mask D n x = dueG R pv mask D n x
  | [], _, _, _ => rfl
  | ij :: D, h, n, x => by
    have e : stepG R pv mask ij n x = dueS R pv mask ij n x := by
      have := h ij (.head _)
      unfold stepG dueS
      rw [Nat.min_eq_left (by omega), Nat.max_eq_right (by omega)]
    show allG R pv mask D n (stepG R pv mask ij n x) = dueG R pv mask D n (dueS R pv mask ij n x)
    rw [e, allG_due D fun ij q => h ij (.tail _ q)]
/-- the turned row -/
abbrev turned (R : Rw) : Rw := upd (fun _ => negP) R.reverse
theorem turned_at {R : Rw} {i : Nat} (h : i < R.length) : (turned R)[R.length - 1 - i]? = R[i]?.map fun r => (r.1, r.2.1, negP r.2.2) := by
  rw [upd_get, List.getElem?_reverse (by omega), show R.length - 1 - (R.length - 1 - i) = i by omega]
theorem turned_worth {R : Rw} {pv : Int → Int → Int} {mask : Int} {i j : Nat} (hi : i < R.length) (hj : j < R.length) : worth (turned R) pv mask (R.length - 1 - i) (R.length - 1 - j) = worth R pv mask i j := by
  unfold worth
  rw [turned_at hi, turned_at hj, List.getElem?_eq_getElem hi, List.getElem?_eq_getElem hj]
  rfl
theorem turned_clus {R : Rw} {i j : Nat} (hi : i < R.length) (hj : j < i) : lst (clus (turned R) (R.length - 1 - i) (R.length - 1 - j)) = lst (clus R j i) := by
  have hm : ∀ c, c ∈ clus (turned R) (R.length - 1 - i) (R.length - 1 - j) ↔ c ∈ clus R j i := by
    intro c
    rw [mem_clus, mem_clus]
    constructor
    · rintro ⟨n, r, h1, h2, h3, rfl⟩
      have hn : n < R.length := by omega
      have e := turned_at (R := R) (i := R.length - 1 - n) (by omega)
      rw [show R.length - 1 - (R.length - 1 - n) = n by omega, h3] at e
      obtain ⟨r', hr', e'⟩ := Option.map_eq_some_iff.mp e.symm
      exact ⟨R.length - 1 - n, r', by omega, by omega, hr', by rw [← e']; rfl⟩
    · rintro ⟨n, r, h1, h2, h3, rfl⟩
      have e := turned_at (R := R) (i := n) (by omega)
      rw [h3] at e
      exact ⟨R.length - 1 - n, _, by omega, by omega, e, rfl⟩
  have hne : clus (turned R) (R.length - 1 - i) (R.length - 1 - j) ≠ [] := fun q => by
    have : R[j].2.2.cluster ∈ clus R j i := mem_clus.mpr ⟨j, R[j], by omega, by omega, List.getElem?_eq_getElem _, rfl⟩
    rw [← hm, q] at this; cases this
  exact lst_eq ((hm _).mp (lst_mem _ hne)) fun x hx => lst_le _ x ((hm x).mpr hx)
theorem turned_step {R : Rw} {pv : Int → Int → Int} {mask : Int} {i j n : Nat} {y : Inf} (hi : i < R.length) (hj : j < i) (hn : n < R.length) :
    negP (stepG (turned R) pv mask (R.length - 1 - i, R.length - 1 - j) (R.length - 1 - n) (negP y)) = dueS R pv mask (i, j) n y := by
  have hnn : ∀ z : Inf, negP (negP z) = z := fun z => by unfold negP Inf.s_parent; simp
  unfold stepG dueS
  dsimp only
  rw [turned_worth hi (by omega), turned_clus hi hj, Nat.min_eq_right (by omega), Nat.max_eq_left (by omega)]
  generalize worth R pv mask i j = wv
  generalize lst (clus R j i) = M
  by_cases hw : wv = 0
  · rw [if_pos hw, if_pos hw, hnn]
  rw [if_neg hw, if_neg hw]
  have hput : putG (R.length - 1 - i) (R.length - 1 - j) wv (R.length - 1 - n) (negP y) = negP (putG i j wv n y) := by
    unfold putG
    by_cases q1 : n = i
    · rw [if_pos (by omega), if_pos q1]; rfl
    · rw [if_neg (by omega), if_neg q1]
      by_cases q2 : n = j
      · rw [if_pos (by omega), if_pos q2]; rfl
      · rw [if_neg (by omega), if_neg q2]
  rw [hput]
  generalize putG i j wv n y = z
  unfold hangG
  by_cases q : j ≤ n ∧ n < i + 1 ∧ z.cluster ≠ M
  · rw [if_pos q, if_pos ⟨by omega, by omega, q.2.2⟩]
    show negP (negP (z.s_un true)) = _
    rw [hnn]
  · rw [if_neg q, if_neg (fun q' => q ⟨by omega, by omega, q'.2.2⟩), hnn]
theorem turned_all {R : Rw} {pv : Int → Int → Int} {mask : Int} {n : Nat} (hn : n < R.length) : ∀ (D : List (Nat × Nat)), (∀ ij ∈ D, ij.1 < R.length ∧ ij.2 < ij.1) → ∀ y,
    negP (allG (turned R) pv mask (D.map fun ij => (R.length - 1 - ij.1, R.length - 1 - ij.2)) (R.length - 1 - n) (negP y)) = dueG R pv mask D n y
  | [], _, y => by unfold negP Inf.s_parent allG dueG; simp
  | ij :: D, h, y => by
    have h0 := h ij (.head _)
    have e := turned_step (pv := pv) (mask := mask) (y := y) h0.1 h0.2 hn
    have hnn : ∀ z : Inf, negP (negP z) = z := fun z => by unfold negP Inf.s_parent; simp
    have e' : stepG (turned R) pv mask (R.length - 1 - ij.1, R.length - 1 - ij.2) (R.length - 1 - n) (negP y) = negP (dueS R pv mask ij n y) := by rw [← e, hnn]
    show negP (allG (turned R) pv mask (D.map _) (R.length - 1 - n) (stepG (turned R) pv mask (R.length - 1 - ij.1, R.length - 1 - ij.2) (R.length - 1 - n) (negP y))) = dueG R pv mask D n (dueS R pv mask ij n y)
    rw [e']
    exact turned_all hn D (fun ij q => h ij (.tail _ q)) _
theorem turned_U (R : Rw) (cl : Int → Int) : U (turned R) cl 0 = (U R cl 0).reverse.map fun i => R.length - 1 - i := by
  have hl : (turned R).length = R.length := by rw [upd_len, List.length_reverse]
  unfold U
  rw [hl, Nat.sub_zero, ← List.range_eq_range', ← List.filter_reverse]
  have hr : List.range R.length = (List.range R.length).reverse.map fun i => R.length - 1 - i := by
    apply List.ext_getElem?
    intro i
    by_cases hi : i < R.length
    · rw [List.getElem?_map, List.getElem?_reverse (by rw [List.length_range]; exact hi), List.length_range, List.getElem?_range hi, List.getElem?_range (by omega)]
      simp; omega
    · rw [List.getElem?_eq_none (by simp; omega), List.getElem?_eq_none (by simp; omega)]
  conv => lhs; rw [hr]
  rw [List.filter_map]
  congr 1
  apply List.filter_congr
  intro i hi
  have hi' : i < R.length := List.mem_range.mp (List.mem_reverse.mp hi)
  show free (turned R) cl (R.length - 1 - i) = free R cl i
  unfold free
  rw [turned_at hi', List.getElem?_eq_getElem hi']
  rfl
/-- apply_kern does what _law_due says -/
theorem kern_due (back : Bool) (cl : Int → Int) (pv : Int → Int → Int) (mask : Int) (R : Rw) :
    kerned back cl pv mask R = upd (dueG R pv mask (prs (if back = true then (U R cl 0).reverse else U R cl 0))) R := by
  unfold kerned
  cases back
  · rw [if_neg (by decide), if_neg (by decide)]
    exact upd_ext fun n r _ => allG_due _ (fun ij q => (prs_mem (U_sorted R cl) ij q).2.2) _ _
  · rw [if_pos rfl, if_pos rfl]
    apply List.ext_getElem?
    intro n
    by_cases hn : n < R.length
    · have hl : (turned R).length = R.length := by rw [upd_len, List.length_reverse]
      have hl' : (upd (allG (turned R) pv mask (prs (U (turned R) cl 0))) (turned R)).length = R.length := by rw [upd_len, hl]
      have hrev : ((U R cl 0).reverse).Pairwise (· > ·) := List.pairwise_reverse.mpr (U_sorted R cl)
      rw [upd_get, upd_get, List.getElem?_reverse (by rw [hl']; exact hn), hl', upd_get, turned_at hn, turned_U, prs_map]
      rw [List.getElem?_eq_getElem hn]
      simp only [Option.map_some]
      rw [turned_all hn (prs (U R cl 0).reverse) (fun ij q => by
        obtain ⟨x, y, z⟩ := prs_mem hrev ij q
        exact ⟨U_lt (List.mem_reverse.mp x), z⟩)]
    · rw [List.getElem?_eq_none (by simp [upd_len]; omega), List.getElem?_eq_none (by simp [upd_len]; omega)]

end Mine

namespace Mine
-- L3
set_option maxRecDepth 100000
set_option maxHeartbeats 2000000
theorem valueAt_cons (x : Int × Value) (kvs : List (Int × Value)) (k : Int) : valueAt (x :: kvs) k = if x.1 = k then some x.2 else valueAt kvs k := by
  unfold valueAt
  rw [List.find?_cons]
  by_cases q : x.1 = k <;> simp [q]
theorem valueAt_put (k k' : Int) (v : Value) : ∀ kvs : List (Int × Value), valueAt (kvs.map fun kv => if kv.1 = k then (kv.1, v) else kv) k' = if k' = k then (valueAt kvs k').map (fun _ => v) else valueAt kvs k'
  | [] => by unfold valueAt; simp
  | x :: kvs => by
    rw [List.map_cons, valueAt_cons, valueAt_cons, valueAt_put k k' v kvs]
    generalize valueAt kvs k' = u
    by_cases q : k' = k
    · subst q
      by_cases q2 : x.1 = k' <;> simp [q2]
    · by_cases q2 : x.1 = k
      · have : x.1 ≠ k' := fun e => q (e ▸ q2)
        simp [q, q2]
        rw [if_neg (Ne.symm q), if_neg (Ne.symm q)]
      · simp [q, q2]
theorem valueAt_app (k : Int) (v : Value) (k' : Int) : ∀ kvs : List (Int × Value), valueAt (kvs ++ [(k, v)]) k' = (valueAt kvs k').or (if k = k' then some v else none)
  | [] => by rw [List.nil_append, valueAt_cons]; unfold valueAt; simp
  | x :: kvs => by
    rw [List.cons_append, valueAt_cons, valueAt_cons, valueAt_app k v k' kvs]
    generalize valueAt kvs k' = u
    split <;> simp
theorem valueAt_stored {kvs : List (Int × Value)} {k k' : Int} {v : Value} : valueAt (stored kvs k v) k' = if k' = k then some v else valueAt kvs k' := by
  unfold stored
  by_cases h : (kvs.any fun kv => decide (kv.1 = k)) = true
  · rw [if_pos h, valueAt_put]
    by_cases q : k' = k
    · subst q
      rw [if_pos rfl, if_pos rfl]
      rw [← valueAt_isSome_eq_any] at h
      obtain ⟨u, hu⟩ := Option.isSome_iff_exists.mp h
      rw [hu]; rfl
    · rw [if_neg q, if_neg q]
  · rw [if_neg h, valueAt_app]
    by_cases q : k' = k
    · subst q
      rw [if_pos rfl, if_pos rfl]
      rw [← valueAt_isSome_eq_any] at h
      cases hv : valueAt kvs k' with
      | none => rfl
      | some u => rw [hv] at h; exact absurd rfl h
    · rw [if_neg q, if_neg (Ne.symm q), Option.or_none]
theorem fold_off {k : Int} : ∀ (rows acc : List (Int × Value)), (∀ r ∈ rows, r.1 ≠ k) → valueAt (rows.foldl (fun d r => stored d r.1 r.2) acc) k = valueAt acc k
  | [], _, _ => rfl
  | r :: rows, acc, h => by
    rw [List.foldl_cons, fold_off rows _ fun x q => h x (.tail _ q), valueAt_stored, if_neg (Ne.symm (h r (.head _)))]
theorem fold_on {k : Int} {v : Value} : ∀ (rows acc : List (Int × Value)), (∀ r ∈ rows, r.1 = k → r.2 = v) → (∃ r ∈ rows, r.1 = k) → valueAt (rows.foldl (fun d r => stored d r.1 r.2) acc) k = some v
  | [], _, _, h => by obtain ⟨_, q, _⟩ := h; cases q
  | r :: rows, acc, h, e => by
    rw [List.foldl_cons]
    by_cases q : ∃ x ∈ rows, x.1 = k
    · exact fold_on rows _ (fun x y => h x (.tail _ y)) q
    · rw [fold_off rows _ fun x y e => q ⟨x, y, e⟩, valueAt_stored]
      obtain ⟨x, hx, hxk⟩ := e
      rcases List.mem_cons.mp hx with rfl | hx
      · rw [if_pos hxk.symm, h x (.head _) hxk]
      · exact absurd ⟨x, hx, hxk⟩ q
/-- the classes of the law's Gdef -/
def clsRows (mk : List Int) : List (Int × Value) := ((List.range 5).map fun g : Nat => ((g : Int), iv (if (g : Int) ∈ mk then 3 else 1))) ++ mk.map fun g => (g, iv 3)
def clsOf (mk : List Int) (k : Int) : Int := if k ∈ mk then 3 else if 0 ≤ k ∧ k < 5 then 1 else 0
theorem clsOf_3 (mk : List Int) (k : Int) : clsOf mk k = 3 ↔ k ∈ mk := by
  unfold clsOf
  by_cases q : k ∈ mk
  · simp [q]
  · rw [if_neg q]; split <;> simp [q]
theorem cls_val (mk : List Int) (k : Int) : (valueAt ((clsRows mk).foldl (fun d r => stored d r.1 r.2) []) k).getD (iv 0) = iv (clsOf mk k) := by
  unfold clsRows clsOf
  rw [List.foldl_append]
  by_cases q : k ∈ mk
  · rw [if_pos q, fold_on (v := iv 3)]
    · rfl
    · intro r hr _; obtain ⟨g, _, rfl⟩ := List.mem_map.mp hr; rfl
    · exact ⟨(k, iv 3), List.mem_map.mpr ⟨k, q, rfl⟩, rfl⟩
  · rw [if_neg q, fold_off (mk.map _) _ (fun r hr => by obtain ⟨g, hg, rfl⟩ := List.mem_map.mp hr; rintro rfl; exact q hg)]
    by_cases q2 : 0 ≤ k ∧ k < 5
    · rw [if_pos q2, fold_on (v := iv 1)]
      · rfl
      · intro r hr e; obtain ⟨g, _, rfl⟩ := List.mem_map.mp hr
        dsimp only at e ⊢
        rw [if_neg (by rw [e]; exact q)]
      · exact ⟨((k.toNat : Int), iv (if (k.toNat : Int) ∈ mk then 3 else 1)), List.mem_map.mpr ⟨k.toNat, List.mem_range.mpr (by omega), rfl⟩, by dsimp only; omega⟩
    · rw [if_neg q2, fold_off _ _ (fun r hr => by
        obtain ⟨g, hg, rfl⟩ := List.mem_map.mp hr
        have := List.mem_range.mp hg
        dsimp only; rintro rfl; exact q2 (by omega))]
      rfl
abbrev grid : List (List Int) := (List.range 6).flatMap fun a : Nat => (List.range 6).map fun b : Nat => [(a : Int), (b : Int)]
theorem grid_hash : ∀ p ∈ grid, ∀ q ∈ grid, tupleKeyHash ik p = tupleKeyHash ik q → p = q := by
  decide +kernel
theorem grid_mem {a b : Int} (h1 : 0 ≤ a) (h2 : a < 6) (h3 : 0 ≤ b) (h4 : b < 6) : [a, b] ∈ grid :=
  List.mem_flatMap.mpr ⟨a.toNat, List.mem_range.mpr (by omega), List.mem_map.mpr ⟨b.toNat, List.mem_range.mpr (by omega), by rw [Int.toNat_of_nonneg h1, Int.toNat_of_nonneg h3]⟩⟩
/-- the pairs of the law -/
structure Prs (xs : List (List Int × Addr × Value)) (n : Nat) : Prop where
  len : xs.length ≤ n
  vals : ∀ x ∈ xs, ∃ i, x.2.2 = iv i
  grid : ∀ x ∈ xs, x.1 ∈ grid
  nd : (xs.map (·.1)).Nodup
theorem Prs.nil : Prs [] 0 := ⟨Nat.le_refl _, fun _ q => (nomatch q), fun _ q => (nomatch q), .nil⟩
theorem Prs.store {xs : List (List Int × Addr × Value)} {n : Nat} {k : List Int} {T : Addr} {i : Int} (h : Prs xs n) (hk : k ∈ Mine.grid) : Prs (storedH xs k T (iv i)) (n + 1) := by
  unfold storedH
  split
  · refine ⟨by rw [List.length_map]; have := h.len; omega, fun x hx => ?_, fun x hx => ?_, ?_⟩
    · obtain ⟨y, hy, rfl⟩ := List.mem_map.mp hx
      unfold putAt
      split
      · exact ⟨i, rfl⟩
      · exact h.vals y hy
    · obtain ⟨y, hy, rfl⟩ := List.mem_map.mp hx
      unfold putAt
      split <;> exact h.grid y hy
    · rw [List.map_map]
      have : (fun x : List Int × Addr × Value => x.1) ∘ putAt k (iv i) = fun x => x.1 := by
        funext x; simp only [Function.comp_apply]; unfold putAt; split <;> rfl
      rw [show ((fun x : List Int × Addr × Value => x.1) ∘ putAt k (iv i)) = fun x => x.1 from this]
      exact h.nd
  · rename_i hs
    refine ⟨by rw [List.length_append]; have := h.len; simp; omega, fun x hx => ?_, fun x hx => ?_, ?_⟩
    · rcases List.mem_append.mp hx with q | q
      · exact h.vals x q
      · rw [List.mem_singleton] at q; subst q; exact ⟨i, rfl⟩
    · rcases List.mem_append.mp hx with q | q
      · exact h.grid x q
      · rw [List.mem_singleton] at q; subst q; exact hk
    · rw [List.map_append, List.nodup_append]
      refine ⟨h.nd, by simp, fun a ha b hb => ?_⟩
      rw [List.map_cons, List.map_nil, List.mem_singleton] at hb
      subst hb
      rintro rfl
      obtain ⟨x, hx, e⟩ := List.mem_map.mp ha
      apply hs
      unfold atKey
      rw [Option.isSome_map, List.find?_isSome]
      exact ⟨x, hx, by simp [e]⟩
theorem Prs.hash {xs : List (List Int × Addr × Value)} {n : Nat} (h : Prs xs n) : (xs.map fun x => tupleKeyHash ik x.1).Nodup := by
  have e : (xs.map fun x => tupleKeyHash ik x.1) = (xs.map (·.1)).map (tupleKeyHash ik) := by rw [List.map_map]; rfl
  rw [e]
  unfold List.Nodup
  rw [List.pairwise_map]
  refine List.Pairwise.imp_of_mem (fun {a b} ha hb hab q => ?_) h.nd
  obtain ⟨x, hx, rfl⟩ := List.mem_map.mp ha
  obtain ⟨y, hy, rfl⟩ := List.mem_map.mp hb
  exact hab (grid_hash _ (h.grid x hx) _ (h.grid y hy) q)
/-- the worth of a pair -/
def pvOf (xs : List (List Int × Addr × Value)) (a b : Int) : Int := match ((atKey xs [a, b]).map (·.2)).getD (iv 0) with
  | .int i _ => i
  | _ => 0
theorem Prs.pv {xs : List (List Int × Addr × Value)} {n : Nat} (h : Prs xs n) (a b : Int) : ((atKey xs [a, b]).map (·.2)).getD (iv 0) = iv (pvOf xs a b) := by
  unfold pvOf
  cases q : atKey xs [a, b] with
  | none => rfl
  | some p =>
    unfold atKey at q
    obtain ⟨x, hx, rfl⟩ := Option.map_eq_some_iff.mp q
    obtain ⟨i, hi⟩ := h.vals x (List.mem_of_find?_eq_some hx)
    simp only [Option.map_some, Option.getD_some, hi]

end Mine

namespace Mine
-- W14
set_option maxRecDepth 100000
set_option maxHeartbeats 2000000
theorem fillit14 : (PySem.Challenge.rw_nu0162_01 = PySem.Challenge.rw_nu0162_01) ∧ (∀ P, KK P = KK P) := by
  k_fill
  exact ⟨rfl, fun _ => rfl⟩
variable {w : World} {h₀ : Heap} {A : Around} {f f' f'' : Fh}
theorem due_spec {il ml p : Addr} {R : Rw} {mk : List Int} {xs : List (List Int × Addr × Value)} {pv : Int → Int → Int} {cl : Int → Int} {mask : Int} {back : Bool} {P : Value → Fh → Prop} (hG : (GG w h₀).Ok) (hA : Rm 2 A)
    (hil : IsL f il (refs R)) (hR : Row w f R) (hz : R.length ≤ 8) (hml : IsL f ml (mk.map iv)) (hp : f p = some (.pdict xs)) (hk : KeysAt f xs) (hpv : ∀ a b, ((atKey xs [a, b]).map (·.2)).getD (iv 0) = iv (pv a b)) (hcl : ∀ g, cl g = 3 ↔ g ∈ mk)
    (h : ∀ l f', Ext [] f f' → RowsAt f' l ((upd (dueG R pv mask (prs (if back = true then (U R cl 0).reverse else U R cl 0))) R).map fun r => tri r.2.2) → P (.ref l) f') :
    Cd (GG w h₀) A f 268 [.ref il, .bool back, .ref p, .ref ml, iv mask] P := by
  refine Cd.enterC (n₁ := "infos") (n₂ := "marks") (c₁ := some (.ref il)) (c₂ := some (.ref ml)) (eb := [("infos", .ref il), ("is_backward", .bool back), ("pairs", .ref p), ("marks", .ref ml), ("mask", iv mask)])
    (ml := fun x => if x = "mask" then some (iv mask) else if x = "pairs" then some (.ref p) else if x = "is_backward" then some (.bool back) else none) hG (ho_lit (by dsimp only; k_is) rfl) (by dsimp only; k_is) hA.room (fun us e => ?_) rfl (fun L => rfl) (by decide) (fun L x => rfl) (fun L => rfl) (fun L => rfl) fun L l0 l1 l2 => ?_
  · obtain ⟨u₁, us', rfl, e₁, e'⟩ := mapc e
    obtain ⟨u₂, us', rfl, e₂, e'⟩ := mapc e'
    obtain ⟨u₃, u₄, u₅, rfl, e₃, e₄, e₅⟩ := map3 e'
    refine ⟨[("infos", u₁), ("is_backward", u₂), ("pairs", u₃), ("marks", u₄), ("mask", u₅)], fun s _ => BindsTo.of_eq rfl, ?_⟩
    simp only [List.map_cons, List.map_nil, e₁, e₂, e₃, e₄, e₅]
  have hA₁ := fun env => hA.deeper (env := env)
  have hC : Dc w (fset (fset f (L + 1) (.cell (some (.ref il)))) (L + 1 + 1) (.cell (some (.ref ml)))) (L + 1) (L + 1 + 1) il ml p R mk xs := by
    have e1 : Ext [] f (fset f (L + 1) (.cell (some (.ref il)))) := Ext.new l1
    have e2 : Ext [] f (fset (fset f (L + 1) (.cell (some (.ref il)))) (L + 1 + 1) (.cell (some (.ref ml)))) := e1.off l2
    exact ⟨by rw [fset_ne (Nat.ne_of_lt (Nat.lt_succ_self _)), fset_self], fset_self, e2.isL hil List.not_mem_nil, hR.ext e2 fun _ _ => ⟨List.not_mem_nil, List.not_mem_nil⟩, e2.isL hml List.not_mem_nil, e2 _ _ hp List.not_mem_nil, fun x hx => e2 _ _ (hk x hx) List.not_mem_nil⟩
  have hE : Ext [] f (fset (fset f (L + 1) (.cell (some (.ref il)))) (L + 1 + 1) (.cell (some (.ref ml)))) := (Ext.new l1).off l2
  have h' : ∀ l f', Ext [] (fset (fset f (L + 1) (.cell (some (.ref il)))) (L + 1 + 1) (.cell (some (.ref ml)))) f' → RowsAt f' l ((upd (dueG R pv mask (prs (if back = true then (U R cl 0).reverse else U R cl 0))) R).map fun r => tri r.2.2) → P (.ref l) f' := fun l f' e r => h l f' (hE.trans e) r
  clear h hE hil hR hml hp hk l0 l1 l2
  generalize fset (fset f (L + 1) (.cell (some (.ref il)))) (L + 1 + 1) (.cell (some (.ref ml))) = f₀ at *
  -- due = ..
  refine Ss.cons (St1.comp (Ex.cell rfl hC.cell₁ ⟨il, refs R, _, fun k acc f' => Ext [] f₀ f' ∧ ∃ As : List Addr, acc = As.map .ref ∧ As.length = k ∧ As.Nodup ∧ (∀ a ∈ As, f₀ a = none) ∧ ∀ (i : Nat) (a : Addr) (r : Addr × Addr × Inf), As[i]? = some a → R[i]? = some r → IsL f' a (tri r.2.2),
    rfl, Src.list (hA₁ _).h hC.il, by rw [List.length_map]; omega, ⟨.refl, [], rfl, rfl, .nil, fun _ q => (nomatch q), fun _ _ _ q => (nomatch q)⟩, fun k acc f₂ ⟨e, As, q, q', _⟩ => ⟨e.isL hC.il List.not_mem_nil, by rw [q, List.length_map]; omega⟩, ?_, ?_⟩) (closureFor_none (by decide)))
  · rintro k u acc f₂ C m₀ hu ⟨e, As, rfl, hlen, hnd, hnew, hat⟩
    rw [refs_get] at hu
    obtain ⟨r, hr, rfl⟩ := Option.map_eq_some_iff.mp hu
    have hI : IsInfo w f₂ r.1 r.2.1 r.2.2 := (hC.ext e).row.get hr
    refine tests0 ?_
    rw [if_pos rfl]
    refine Ex.list (Ar.cons (Ex.info hG (Ex.name (v := .ref r.1) rfl ⟨r.1, r.2.1, r.2.2, iv r.2.2.xa, rfl, hI, by simp, rfl, rfl, Ar.cons (Ex.info hG (Ex.name (v := .ref r.1) rfl ⟨r.1, r.2.1, r.2.2, iv r.2.2.xo, rfl, hI, by simp, rfl, rfl, Ar.cons (Ex.info hG (Ex.name (v := .ref r.1) rfl ⟨r.1, r.2.1, r.2.2, .bool r.2.2.un, rfl, hI, by simp, rfl, rfl, Ar.nil ⟨by simp, fun D hD => ?_⟩⟩))⟩))⟩)))
    have hnm : D ∉ As := fun q => by
      obtain ⟨i, hi⟩ := List.mem_iff_getElem?.mp q
      have hlt := (List.getElem?_eq_some_iff.mp hi).1
      have hlt' := (List.getElem?_eq_some_iff.mp hr).1
      exact noneL hD _ (hat i D (R[i]'(by omega)) hi (List.getElem?_eq_getElem _))
    refine ⟨e.trans (Ext.new hD), As ++ [D], by rw [List.map_append]; rfl, by rw [List.length_append, hlen]; rfl, List.nodup_append.mpr ⟨hnd, by simp, fun a ha b hb => by rw [List.mem_singleton] at hb; rintro rfl; exact hnm (hb ▸ ha)⟩, fun a ha => ?_, fun i a r' h1 h2 => ?_⟩
    · rcases List.mem_append.mp ha with q | q
      · exact hnew a q
      · rw [List.mem_singleton] at q; subst q; exact e.gone hD
    · by_cases q : i < As.length
      · rw [List.getElem?_append_left q] at h1
        exact (hat i a r' h1 h2).keep (fset_ne (by rintro rfl; exact hnm (List.mem_of_getElem? h1)))
      · have : i = As.length := by have := (List.getElem?_eq_some_iff.mp h1).1; rw [List.length_append] at this; simp at this; omega
        subst this
        rw [List.getElem?_append_right (Nat.le_refl _), Nat.sub_self] at h1
        cases h1
        rw [hlen, hr] at h2; cases h2
        exact .inl fset_self
  rintro acc f₂ ⟨e, As, rfl, hlen, hnd, hnew, hat⟩ dl hdl
  rw [List.length_map] at hlen
  have hD : Du f₀ (fset f₂ dl (.list (As.map .ref))) dl As (dueG R pv mask []) R :=
    ⟨e.trans (Ext.new hdl), .inl fset_self, hlen, hnd, hnew, fun q => by
      obtain ⟨i, hi⟩ := List.mem_iff_getElem?.mp q
      have hlt := (List.getElem?_eq_some_iff.mp hi).1
      exact noneL hdl _ (hat i dl (R[i]'(by omega)) hi (List.getElem?_eq_getElem _)), fun i a r h1 h2 => (hat i a r h1 h2).keep (fset_ne (by rintro rfl; exact noneL hdl _ (hat i a r h1 h2)))⟩
  refine andNext ?_
  clear hat hnew hnd hlen e
  have hm1 : mset (fun x => if x = "mask" then some (iv mask) else if x = "pairs" then some (.ref p) else if x = "is_backward" then some (.bool back) else none) "due" (.ref dl) "due" = some (.ref dl) := rfl
  have hm2 : mset (fun x => if x = "mask" then some (iv mask) else if x = "pairs" then some (.ref p) else if x = "is_backward" then some (.bool back) else none) "due" (.ref dl) "mask" = some (iv mask) := rfl
  have hm3 : mset (fun x => if x = "mask" then some (iv mask) else if x = "pairs" then some (.ref p) else if x = "is_backward" then some (.bool back) else none) "due" (.ref dl) "pairs" = some (.ref p) := rfl
  have hm4 : mset (fun x => if x = "mask" then some (iv mask) else if x = "pairs" then some (.ref p) else if x = "is_backward" then some (.bool back) else none) "due" (.ref dl) "is_backward" = some (.bool back) := rfl
  generalize mset (fun x => if x = "mask" then some (iv mask) else if x = "pairs" then some (.ref p) else if x = "is_backward" then some (.bool back) else none) "due" (.ref dl) = m₁ at *
  generalize fset f₂ dl (.list (As.map .ref)) = f₁ at *
  -- order
  refine Ss.name (Ex.callT hG bi_list (Ar.cons (Ex.callT hG bi_range (Ar.cons (Ex.callF hG bi_len (Ar.cons (Ex.cell rfl (hC.ext hD.ext).cell₁ (Ar.nil (Ca.len (hC.ext hD.ext).il (by rw [List.length_map]; omega) (Ar.nil (Ca.range1 fun r hr => ?_)))))))))))
  rw [List.length_map]
  replace hD := hD.fresh hr (c := .range 0 (R.length : Nat))
  refine Ar.nil (Ca.listOfRange (n := (R.length : Nat)) (hA₁ _).h fset_self (Int.natCast_nonneg _) (by omega) fun ol hol => ?_)
  rw [Int.toNat_natCast]
  replace hD := hD.fresh hol (c := .list ((List.range R.length).map fun i => iv (i : Nat)))
  have hol' : IsL (fset (fset f₁ r (.range 0 (R.length : Nat))) ol (.list ((List.range R.length).map fun i => iv (i : Nat)))) ol ((List.range R.length).map fun i => iv (i : Nat)) := .inl fset_self
  generalize fset (fset f₁ r (.range 0 (R.length : Nat))) ol (.list ((List.range R.length).map fun i => iv (i : Nat))) = f₃ at *
  have o1 : mset m₁ "order" (.ref ol) "due" = some (.ref dl) := hm1
  have o2 : mset m₁ "order" (.ref ol) "mask" = some (iv mask) := hm2
  have o3 : mset m₁ "order" (.ref ol) "pairs" = some (.ref p) := hm3
  have o4 : mset m₁ "order" (.ref ol) "is_backward" = some (.bool back) := hm4
  have o5 : mset m₁ "order" (.ref ol) "order" = some (.ref ol) := rfl
  generalize mset m₁ "order" (.ref ol) = m₂ at *
  clear hol hr hm1 hm2 hm3 hm4
  refine Ss.cond (Ts.plain (Ex.name (v := .bool back) o4 (Tt.bool ?_)))
  refine ite_both (fun m' f' => m' "due" = some (.ref dl) ∧ m' "mask" = some (iv mask) ∧ m' "pairs" = some (.ref p) ∧ Du f₀ f' dl As (dueG R pv mask []) R ∧ ∃ ol, m' "order" = some (.ref ol) ∧ IsL f' ol ((if back = true then (List.range R.length).reverse else List.range R.length).map fun i : Nat => iv i))
    ?_ (fun hb => ?_) (fun hb => Ss.nil ⟨rfl, o1, o2, o3, hD, ol, o5, by rw [if_neg (by simp [hb])]; exact hol'⟩)
  rotate_left
  · refine Ss.name (Ex.slice (Ex.name (v := .ref ol) o5 (PartOk.no (PartOk.no (PartOk.yes (Ex.neg (Ex.cint ⟨1, rfl, -1, rfl, by decide, ol, _, rfl, hol', by rw [List.length_map, List.length_range]; omega, fun D hD' => ?_⟩)))))))
    rw [pickL_rev, ← List.map_reverse]
    exact Ss.nil ⟨rfl, o1, o2, o3, hD.fresh hD', D, rfl, by rw [if_pos hb]; exact .inl fset_self⟩
  clear o1 o2 o3 o4 o5 hol' hD
  rintro m₃ f₄ ⟨o1, o2, o3, hD, ol, o5, hol⟩
  have hS : ((if back = true then (List.range R.length).reverse else List.range R.length).filter (free R cl)) = if back = true then (U R cl 0).reverse else U R cl 0 := by
    unfold U; rw [Nat.sub_zero, ← List.range_eq_range']
    cases back
    · rfl
    · rw [if_pos rfl, if_pos rfl, List.filter_reverse]
  have hos : ∀ i ∈ (if back = true then (List.range R.length).reverse else List.range R.length), i < R.length := by
    intro i hi; cases back
    · rw [if_neg (by decide)] at hi; exact List.mem_range.mp hi
    · rw [if_pos rfl, List.mem_reverse] at hi; exact List.mem_range.mp hi
  have hnd : (if back = true then (List.range R.length).reverse else List.range R.length).Nodup := by
    cases back
    · rw [if_neg (by decide)]; exact List.nodup_range
    · rw [if_pos rfl]; unfold List.Nodup; rw [List.pairwise_reverse]; exact (List.nodup_range (n := R.length)).imp fun h => h.symm
  have hol8 : (if back = true then (List.range R.length).reverse else List.range R.length).length ≤ 8 := by cases back <;> simp <;> omega
  rw [← hS] at h'
  clear hS
  generalize (if back = true then (List.range R.length).reverse else List.range R.length) = os at *
  have hC₄ := hC.ext hD.ext
  -- seen
  refine Ss.cons (St1.comp (cl := [("marks", L + 1 + 1), ("infos", L + 1)]) (Ex.name (v := .ref ol) o5 ⟨ol, os.map fun i : Nat => iv i, _, fun k acc f' => f' = f₄ ∧ acc = ((os.take k).filter (free R cl)).map fun i : Nat => iv i,
    rfl, Src.list (hA₁ _).h hol, by rw [List.length_map]; omega, ⟨rfl, rfl⟩, fun k acc f' ⟨e, e'⟩ => ⟨e ▸ hol, by rw [e', List.length_map]; exact Nat.le_trans (List.length_filter_le ..) (List.length_take_le ..)⟩, ?_, ?_⟩) (by rfl))
  · rintro k u acc _ C m₀ hu ⟨rfl, rfl⟩
    rw [List.getElem?_map] at hu
    obtain ⟨i, hi, rfl⟩ := Option.map_eq_some_iff.mp hu
    have hlt : i < R.length := hos i (List.mem_of_getElem? hi)
    have hr : R[i]? = some R[i] := List.getElem?_eq_getElem hlt
    generalize R[i] = r at hr
    refine tests1 (Ts.cmp (Ex.infoAt hG hC₄ (by omega) rfl hr (by simp) rfl rfl (Ex.cell rfl hC₄.cell₂ (Co.notInInts (hA₁ _).line hC₄.ml ⟨_, rfl, ?_⟩))))
    by_cases q : r.2.2.glyph ∈ mk
    · rw [if_neg (by simp [q])]
      refine ⟨rfl, ?_⟩
      rw [List.take_add_one, hi, List.filter_append, List.map_append, Option.toList_some, List.filter_cons, if_neg (by unfold free; rw [hr]; simp [(hcl _).mpr q]), List.filter_nil, List.map_nil, List.append_nil]
    · rw [if_pos (by simp [q])]
      refine Ex.name (v := iv (i : Nat)) rfl ⟨rfl, ?_⟩
      rw [List.take_add_one, hi, List.filter_append, List.map_append, Option.toList_some, List.filter_cons, if_pos (by unfold free; rw [hr]; simp [show cl r.2.2.glyph ≠ 3 from fun e => q ((hcl _).mp e)]), List.filter_nil]; rfl
  rintro acc f₄ ⟨rfl, rfl⟩ sl hsl
  rw [List.length_map, List.take_of_length_le (Nat.le_refl _)]
  have hSl : ∀ i ∈ os.filter (free R cl), i < R.length := fun i hi => hos i (List.mem_filter.mp hi).1
  have hSd : (os.filter (free R cl)).Nodup := hnd.filter _
  have hS8 : (os.filter (free R cl)).length ≤ 8 := Nat.le_trans (List.length_filter_le ..) hol8
  generalize os.filter (free R cl) = S at *
  clear hos hnd hol8 hol
  refine andNext ?_
  have hsl0 : f₀ sl = none := hD.ext.gone hsl
  have hslA : sl ∉ dl :: As := fun q => by obtain ⟨c, e⟩ := hD.some q; rw [hsl] at e; cases e
  replace hD := hD.fresh hsl (c := .list (S.map fun i : Nat => iv i))
  have hsl' : IsL (fset f₄ sl (.list (S.map fun i : Nat => iv i))) sl (S.map fun i : Nat => iv i) := .inl fset_self
  generalize fset f₄ sl (.list (S.map fun i : Nat => iv i)) = f₅ at *
  have p1 : mset m₃ "seen" (.ref sl) "due" = some (.ref dl) := o1
  have p2 : mset m₃ "seen" (.ref sl) "mask" = some (iv mask) := o2
  have p3 : mset m₃ "seen" (.ref sl) "pairs" = some (.ref p) := o3
  have p4 : mset m₃ "seen" (.ref sl) "seen" = some (.ref sl) := rfl
  generalize mset m₃ "seen" (.ref sl) = m₄ at *
  clear o1 o2 o3 o5 hC₄ hsl
  -- the pairs
  refine Ss.cons (St1.forZip hG bi_zip (hA₁ _).h (Ar.cons (Ex.name (v := .ref sl) p4 (Ar.cons (Ex.fromK (k := 1) (Ex.name (v := .ref sl) p4 ⟨sl, _, rfl, hsl', by rw [List.length_map]; omega, fun D hDn => ?_⟩))))))
  rw [← List.map_drop]
  have hD0 : f₀ D = none := hD.ext.gone hDn
  have hDA : D ∉ dl :: As := fun q => by obtain ⟨c, e⟩ := hD.some q; rw [hDn] at e; cases e
  have hslD : sl ≠ D := by rintro rfl; exact noneL hDn _ hsl'
  replace hD := ((hD.fresh hDn (c := .list ((S.drop 1).map fun i : Nat => iv i))).del hsl0 hslA).del hD0 hDA
  refine Ar.nil ⟨sl, D, S.map fun i : Nat => iv i, (S.drop 1).map fun i : Nat => iv i, fun k m' f' => m' "due" = some (.ref dl) ∧ m' "mask" = some (iv mask) ∧ m' "pairs" = some (.ref p) ∧ Du f₀ f' dl As (dueG R pv mask ((prs S).take k)) R, rfl, hsl'.keep (fset_ne hslD), .inl fset_self, ⟨p1, p2, p3, hD⟩, ?_, ?_⟩
  rotate_left
  · rintro m' f' ⟨q1, q2, q3, hD⟩
    rw [List.length_map, List.length_map, List.length_drop, List.take_of_length_le (by unfold prs; rw [List.length_zip, List.length_tail]; exact Nat.le_refl _)] at hD
    refine andNext ?_
    refine Ss.ret (Ex.comp (Ex.name (v := .ref dl) q1 ⟨dl, As.map .ref, _, fun k acc f'' => Du f₀ f'' dl As (dueG R pv mask (prs S)) R ∧ ∃ Ts : List Addr, acc = Ts.map .ref ∧ Ts.length = k ∧ ∀ (j : Nat) (T : Addr) (r : Addr × Addr × Inf), Ts[j]? = some T → R[j]? = some r → f'' T = some (.tup (tri (dueG R pv mask (prs S) j r.2.2))),
      rfl, Src.list (hA₁ _).h hD.isl, by rw [List.length_map, hD.len]; omega, ⟨hD, [], rfl, rfl, fun _ _ _ q => (nomatch q)⟩, fun k acc f'' ⟨a, Ts, b, c, _⟩ => ⟨a.isl, by rw [b, List.length_map]; omega⟩, ?_, ?_⟩) (closureFor_none (by decide)))
    · rintro k u acc f'' C m₀ hu ⟨hD, Ts, rfl, hlen, hat⟩
      rw [List.getElem?_map] at hu
      obtain ⟨a, ha, rfl⟩ := Option.map_eq_some_iff.mp hu
      have hlt : k < R.length := by rw [← hD.len]; exact (List.getElem?_eq_some_iff.mp ha).1
      have hr : R[k]? = some R[k] := List.getElem?_eq_getElem hlt
      generalize R[k] = r at hr
      refine tests0 ?_
      rw [if_pos rfl]
      refine Ex.callT hG bi_tuple (Ar.cons (Ex.name (v := .ref a) rfl (Ar.nil (Ca.tuple (hD.at_ k a r ha hr) (by simp) fun T hT => ?_))))
      refine ⟨hD.fresh hT, Ts ++ [T], by rw [List.map_append]; rfl, by rw [List.length_append, hlen]; rfl, fun j T' r' h1 h2 => ?_⟩
      by_cases q : j < Ts.length
      · rw [List.getElem?_append_left q] at h1
        have := hat j T' r' h1 h2
        rw [fset_ne (by rintro rfl; rw [hT] at this; cases this)]; exact this
      · have : j = Ts.length := by have := (List.getElem?_eq_some_iff.mp h1).1; rw [List.length_append] at this; simp at this; omega
        subst this
        rw [List.getElem?_append_right (Nat.le_refl _), Nat.sub_self] at h1
        cases h1
        rw [hlen] at h2 ⊢; rw [hr] at h2; cases h2
        exact fset_self
    rintro acc f'' ⟨hD, Ts, rfl, hlen, hat⟩ rl hrl
    rw [List.length_map, hD.len] at hlen
    refine h' rl _ (hD.ext.trans (Ext.new hrl)) ⟨Ts, .inl fset_self, by rw [List.length_map, upd_len, hlen], fun j T row h1 h2 => ?_⟩
    rw [List.getElem?_map, upd_get] at h2
    obtain ⟨r, hr, rfl⟩ := Option.map_eq_some_iff.mp h2
    obtain ⟨r', hr', rfl⟩ := Option.map_eq_some_iff.mp hr
    have := hat j T r' h1 hr'
    rw [fset_ne (by rintro rfl; rw [hrl] at this; cases this)]; exact this
  clear hD hsl' hsl0 hslA hD0 hDA hslD hDn p1 p2 p3 p4 h'
  rintro k u v m₅ f₆ T hu hv hT ⟨q1, q2, q3, hD⟩
  rw [List.getElem?_map] at hu hv
  obtain ⟨a, ha, rfl⟩ := Option.map_eq_some_iff.mp hu
  obtain ⟨b, hb, rfl⟩ := Option.map_eq_some_iff.mp hv
  have hab : (prs S)[k]? = some (a, b) := by unfold prs; rw [List.getElem?_zip_eq_some]; exact ⟨ha, by rw [← List.drop_one]; exact hb⟩
  have hne : a ≠ b := by
    rintro rfl
    rw [List.getElem?_drop] at hb
    have := (List.getElem?_inj (List.getElem?_eq_some_iff.mp ha).1 hSd).mp (ha.trans hb.symm)
    omega
  obtain ⟨r, hr⟩ : ∃ r, R[a]? = some r := ⟨_, List.getElem?_eq_getElem (hSl a (List.mem_of_getElem? ha))⟩
  obtain ⟨r', hr'⟩ : ∃ r, R[b]? = some r := ⟨_, List.getElem?_eq_getElem (hSl b (List.mem_of_mem_drop (List.mem_of_getElem? hb)))⟩
  have htk : (prs S).take (k + 1) = (prs S).take k ++ [(a, b)] := by rw [List.take_add_one, hab]; rfl
  replace hD := hD.fresh hT (c := .tup [iv (a : Nat), iv (b : Nat)])
  generalize fset f₆ T (.tup [iv (a : Nat), iv (b : Nat)]) = f₇ at *
  have n1 : mset (mset m₅ "first" (iv (a : Nat))) "second" (iv (b : Nat)) "due" = some (.ref dl) := q1
  have n2 : mset (mset m₅ "first" (iv (a : Nat))) "second" (iv (b : Nat)) "mask" = some (iv mask) := q2
  have n3 : mset (mset m₅ "first" (iv (a : Nat))) "second" (iv (b : Nat)) "pairs" = some (.ref p) := q3
  have n4 : mset (mset m₅ "first" (iv (a : Nat))) "second" (iv (b : Nat)) "first" = some (iv (a : Nat)) := rfl
  have n5 : mset (mset m₅ "first" (iv (a : Nat))) "second" (iv (b : Nat)) "second" = some (iv (b : Nat)) := rfl
  generalize mset (mset m₅ "first" (iv (a : Nat))) "second" (iv (b : Nat)) = m₆ at *
  clear q1 q2 q3 hT hu hv hab
  have hC₇ := hC.ext hD.ext
  refine Ss.cons (St1.tupS (hA₁ _).h (Ex.tup (Ar.cons (Ex.infAt hC₇ (by omega) n4 hr (Ar.cons (Ex.infAt hC₇ (by omega) n5 hr' (Ar.nil ⟨by simp, fun T₂ hT₂ => ⟨T₂, _, _, rfl, fset_self, andNext ?_⟩⟩)))))))
  replace hD := hD.fresh hT₂ (c := .tup [.ref r.1, .ref r'.1])
  generalize fset f₇ T₂ (.tup [.ref r.1, .ref r'.1]) = f₈ at *
  clear hC₇ hT₂
  replace n1 : mset (mset m₆ "other" (.ref r'.1)) "one" (.ref r.1) "due" = some (.ref dl) := n1
  replace n2 : mset (mset m₆ "other" (.ref r'.1)) "one" (.ref r.1) "mask" = some (iv mask) := n2
  replace n3 : mset (mset m₆ "other" (.ref r'.1)) "one" (.ref r.1) "pairs" = some (.ref p) := n3
  replace n4 : mset (mset m₆ "other" (.ref r'.1)) "one" (.ref r.1) "first" = some (iv (a : Nat)) := n4
  replace n5 : mset (mset m₆ "other" (.ref r'.1)) "one" (.ref r.1) "second" = some (iv (b : Nat)) := n5
  have n6 : mset (mset m₆ "other" (.ref r'.1)) "one" (.ref r.1) "one" = some (.ref r.1) := rfl
  have n7 : mset (mset m₆ "other" (.ref r'.1)) "one" (.ref r.1) "other" = some (.ref r'.1) := rfl
  generalize mset (mset m₆ "other" (.ref r'.1)) "one" (.ref r.1) = m₇ at *
  have hC₈ := hC.ext hD.ext
  refine Ss.name (Ex.meth hG (Ex.name (v := .ref p) n3 ⟨_, _, keep_builtin, meth_getP hC₈.p, Ar.cons (Ex.tup (Ar.cons (Ex.info hG (Ex.name (v := .ref r.1) n6 ⟨r.1, r.2.1, r.2.2, iv r.2.2.glyph, rfl, hC₈.row.get hr, by simp, rfl, rfl, Ar.cons (Ex.info hG (Ex.name (v := .ref r'.1) n7 ⟨r'.1, r'.2.1, r'.2.2, iv r'.2.2.glyph, rfl, hC₈.row.get hr', by simp, rfl, rfl, Ar.nil ⟨by simp, fun T₃ hT₃ => ?_⟩⟩))⟩))))⟩))
  replace hD := hD.fresh hT₃ (c := .tup [iv r.2.2.glyph, iv r'.2.2.glyph])
  have hC₉ := hC.ext hD.ext
  refine Ar.cons (Ex.cint (Ar.nil (Ca.getP hG (Nat.lt_of_le_of_lt (Nat.add_le_add_left (by decide) _) (hA₁ _).line) hC₉.p hC₉.keys (ks := [r.2.2.glyph, r'.2.2.glyph]) fset_self ?_)))
  rw [hpv]
  generalize fset f₈ T₃ (.tup [iv r.2.2.glyph, iv r'.2.2.glyph]) = f₉ at *
  clear hC₈ hT₃
  have hw : worth R pv mask a b = if Builtin.bitAnd r.2.2.mask mask ≠ 0 ∧ Builtin.bitAnd r'.2.2.mask mask ≠ 0 then pv r.2.2.glyph r'.2.2.glyph else 0 := by unfold worth; rw [hr, hr']
  generalize pv r.2.2.glyph r'.2.2.glyph = wv at *
  replace n1 : mset m₇ "worth" (iv wv) "due" = some (.ref dl) := n1
  replace n2 : mset m₇ "worth" (iv wv) "mask" = some (iv mask) := n2
  replace n3 : mset m₇ "worth" (iv wv) "pairs" = some (.ref p) := n3
  replace n4 : mset m₇ "worth" (iv wv) "first" = some (iv (a : Nat)) := n4
  replace n5 : mset m₇ "worth" (iv wv) "second" = some (iv (b : Nat)) := n5
  replace n6 : mset m₇ "worth" (iv wv) "one" = some (.ref r.1) := n6
  replace n7 : mset m₇ "worth" (iv wv) "other" = some (.ref r'.1) := n7
  have n8 : mset m₇ "worth" (iv wv) "worth" = some (iv wv) := rfl
  generalize mset m₇ "worth" (iv wv) = m₈ at *
  have hskip : worth R pv mask a b = 0 → Du f₀ f₉ dl As (dueG R pv mask ((prs S).take (k + 1))) R := fun e => hD.fun fun i r _ => by rw [htk, dueG_snoc]; unfold dueS; rw [if_pos e]
  refine Ss.cond (Ts.and2 (Ts.cmp (Ex.name (v := iv wv) n8 (Ex.cint (Co.ne ⟨_, rfl, ?_⟩)))))
  by_cases hw0 : wv = 0
  · rw [if_neg (by simp [hw0]), if_neg (by decide)]
    exact Ss.nilA (Ss.nil ⟨rfl, n1, n2, n3, hskip (by rw [hw, hw0]; split <;> rfl)⟩)
  rw [if_pos (by simpa using hw0)]
  refine TrB.and1 (Ts.plain (Ex.binop (Ex.info hG (Ex.name (v := .ref r.1) n6 ⟨r.1, r.2.1, r.2.2, iv r.2.2.mask, rfl, hC₉.row.get hr, by simp, rfl, rfl, Ex.name (v := iv mask) n2 (Bo.and (Tt.int ?_))⟩))))
  by_cases hb1 : Builtin.bitAnd r.2.2.mask mask = 0
  · rw [if_neg (by simp [hb1]), if_neg (by decide)]
    exact Ss.nilA (Ss.nil ⟨rfl, n1, n2, n3, hskip (by rw [hw, if_neg (fun q => q.1 hb1)])⟩)
  rw [if_pos (by simpa using hb1)]
  refine TrB.and1 (Ts.plain (Ex.binop (Ex.info hG (Ex.name (v := .ref r'.1) n7 ⟨r'.1, r'.2.1, r'.2.2, iv r'.2.2.mask, rfl, hC₉.row.get hr', by simp, rfl, rfl, Ex.name (v := iv mask) n2 (Bo.and (Tt.int ?_))⟩))))
  by_cases hb2 : Builtin.bitAnd r'.2.2.mask mask = 0
  · rw [if_neg (by simp [hb2]), if_neg (by decide)]
    exact Ss.nilA (Ss.nil ⟨rfl, n1, n2, n3, hskip (by rw [hw, if_neg (fun q => q.2 hb2)])⟩)
  rw [if_pos (by simpa using hb2)]
  refine TrB.and0 ?_
  rw [if_pos rfl]
  rw [if_pos ⟨hb1, hb2⟩] at hw
  have hfin : ∀ n x, dueG R pv mask ((prs S).take (k + 1)) n x = hangG (min a b) (max a b + 1) (lst (clus R (min a b) (max a b))) n (putG a b wv n (dueG R pv mask ((prs S).take k) n x)) := fun n x => by
    rw [htk, dueG_snoc]; unfold dueS; rw [hw, if_neg hw0]
  clear hskip hb1 hb2 n6 n7
  generalize hg0 : dueG R pv mask ((prs S).take k) = g₀ at *
  have hsame : ∀ n x, (g₀ n x).cluster = x.cluster := fun n x => by rw [← hg0]; exact (dueG_same ..).2
  clear hg0
  -- half
  refine Ss.name (Ex.binop (Ex.binop (Ex.name (v := iv wv) n8 (Ex.binop (Ex.name (v := iv wv) n8 (Ex.cint (Bo.mod (by decide) (Bo.sub (Ex.cint (Bo.fdiv (by decide) (by decide) ?_))))))))))
  rw [show (wv - wv.fmod 2).fdiv 2 = wv / 2 from by rw [Int.fdiv_eq_ediv_of_nonneg _ (by decide), Int.fmod_eq_emod_of_nonneg _ (by decide)]; omega]
  replace n1 : mset m₈ "half" (iv (wv / 2)) "due" = some (.ref dl) := n1
  replace n2 : mset m₈ "half" (iv (wv / 2)) "mask" = some (iv mask) := n2
  replace n3 : mset m₈ "half" (iv (wv / 2)) "pairs" = some (.ref p) := n3
  replace n4 : mset m₈ "half" (iv (wv / 2)) "first" = some (iv (a : Nat)) := n4
  replace n5 : mset m₈ "half" (iv (wv / 2)) "second" = some (iv (b : Nat)) := n5
  replace n8 : mset m₈ "half" (iv (wv / 2)) "worth" = some (iv wv) := n8
  have n9 : mset m₈ "half" (iv (wv / 2)) "half" = some (iv (wv / 2)) := rfl
  generalize mset m₈ "half" (iv (wv / 2)) = m₉ at *
  have haN := (List.getElem?_eq_some_iff.mp hr).1
  have hbN := (List.getElem?_eq_some_iff.mp hr').1
  obtain ⟨ad, had⟩ : ∃ x, As[a]? = some x := ⟨_, List.getElem?_eq_getElem (by rw [hD.len]; exact haN)⟩
  obtain ⟨bd, hbd⟩ : ∃ x, As[b]? = some x := ⟨_, List.getElem?_eq_getElem (by rw [hD.len]; exact hbN)⟩
  -- the three sums
  refine Ss.cons (St1.augItem (Ex.sub (Ex.name (v := .ref dl) n1 (Ex.name (v := iv (a : Nat)) n4 ⟨dl, (a : Nat), As.map .ref, .ref ad, rfl, rfl, hD.isl, Int.natCast_nonneg _, by omega, by rw [Int.toNat_natCast, List.getElem?_map, had]; rfl,
    Ex.cint ⟨ad, tri (g₀ a r.2.2), 0, (g₀ a r.2.2).xa, rfl, rfl, hD.at_ a ad r had hr, by decide, rfl, by simp, Ex.name (v := iv (wv / 2)) n9 ⟨wv / 2, rfl, hD.at_ a ad r had hr, andNext ?_⟩⟩⟩))))
  replace hD := hD.set (vs := (tri (g₀ a r.2.2)).set (Int.toNat 0) (iv ((g₀ a r.2.2).xa + wv / 2))) (g' := fun n x => if n = a then (g₀ n x).s_xa ((g₀ n x).xa + wv / 2) else g₀ n x) had (fun r₁ h => by rw [hr] at h; cases h; rw [if_pos rfl]; rfl) (fun j r₁ h n => by rw [if_neg n])
  generalize hg1 : (fun n x => if n = a then (g₀ n x).s_xa ((g₀ n x).xa + wv / 2) else g₀ n x) = g₁ at *
  generalize fset f₉ ad (.vec ((tri (g₀ a r.2.2)).set (Int.toNat 0) (iv ((g₀ a r.2.2).xa + wv / 2)))) = f₁₀ at *
  refine Ss.cons (St1.augItem (Ex.sub (Ex.name (v := .ref dl) n1 (Ex.name (v := iv (b : Nat)) n5 ⟨dl, (b : Nat), As.map .ref, .ref bd, rfl, rfl, hD.isl, Int.natCast_nonneg _, by omega, by rw [Int.toNat_natCast, List.getElem?_map, hbd]; rfl,
    Ex.cint ⟨bd, tri (g₁ b r'.2.2), 0, (g₁ b r'.2.2).xa, rfl, rfl, hD.at_ b bd r' hbd hr', by decide, rfl, by simp, Ex.binop (Ex.name (v := iv wv) n8 (Ex.name (v := iv (wv / 2)) n9 (Bo.sub ⟨wv - wv / 2, rfl, hD.at_ b bd r' hbd hr', andNext ?_⟩)))⟩⟩))))
  replace hD := hD.set (vs := (tri (g₁ b r'.2.2)).set (Int.toNat 0) (iv ((g₁ b r'.2.2).xa + (wv - wv / 2)))) (g' := fun n x => if n = b then (g₁ n x).s_xa ((g₁ n x).xa + (wv - wv / 2)) else g₁ n x) hbd (fun r₁ h => by rw [hr'] at h; cases h; rw [if_pos rfl]; rfl) (fun j r₁ h n => by rw [if_neg n])
  generalize hg2 : (fun n x => if n = b then (g₁ n x).s_xa ((g₁ n x).xa + (wv - wv / 2)) else g₁ n x) = g₂ at *
  generalize fset f₁₀ bd (.vec ((tri (g₁ b r'.2.2)).set (Int.toNat 0) (iv ((g₁ b r'.2.2).xa + (wv - wv / 2))))) = f₁₁ at *
  refine Ss.cons (St1.augItem (Ex.sub (Ex.name (v := .ref dl) n1 (Ex.name (v := iv (b : Nat)) n5 ⟨dl, (b : Nat), As.map .ref, .ref bd, rfl, rfl, hD.isl, Int.natCast_nonneg _, by omega, by rw [Int.toNat_natCast, List.getElem?_map, hbd]; rfl,
    Ex.cint ⟨bd, tri (g₂ b r'.2.2), 1, (g₂ b r'.2.2).xo, rfl, rfl, hD.at_ b bd r' hbd hr', by decide, rfl, by simp, Ex.binop (Ex.name (v := iv wv) n8 (Ex.name (v := iv (wv / 2)) n9 (Bo.sub ⟨wv - wv / 2, rfl, hD.at_ b bd r' hbd hr', andNext ?_⟩)))⟩⟩))))
  replace hD := hD.set (vs := (tri (g₂ b r'.2.2)).set (Int.toNat 1) (iv ((g₂ b r'.2.2).xo + (wv - wv / 2)))) (g' := fun n x => if n = b then (g₂ n x).s_xo ((g₂ n x).xo + (wv - wv / 2)) else g₂ n x) hbd (fun r₁ h => by rw [hr'] at h; cases h; rw [if_pos rfl]; rfl) (fun j r₁ h n => by rw [if_neg n])
  generalize fset f₁₁ bd (.vec ((tri (g₂ b r'.2.2)).set (Int.toNat 1) (iv ((g₂ b r'.2.2).xo + (wv - wv / 2))))) = f₁₂ at *
  replace hD : Du f₀ f₁₂ dl As (fun n x => putG a b wv n (g₀ n x)) R := hD.fun fun i r₁ _ => by
    rw [← hg2, ← hg1]
    unfold putG
    dsimp only
    by_cases q1 : i = a
    · subst q1; rw [if_pos rfl, if_neg hne, if_neg hne, if_pos rfl]
    · by_cases q2 : i = b
      · subst q2; rw [if_neg q1, if_pos rfl, if_pos rfl, if_pos rfl, if_neg q1]; rfl
      · rw [if_neg q1, if_neg q2, if_neg q2, if_neg q2, if_neg q1]
  clear hg2 hg1
  -- stretch
  refine Ss.name (Ex.callT hG bi_list (Ar.cons (Ex.callT hG bi_range (Ar.cons (Ex.callF hG bi_min (Ar.cons (Ex.name (v := iv (a : Nat)) n4 (Ar.cons (Ex.name (v := iv (b : Nat)) n5 (Ar.nil (Ca.min2 (hA₁ _).h (Ar.cons (Ex.binop (Ex.callF hG bi_max (Ar.cons (Ex.name (v := iv (a : Nat)) n4 (Ar.cons (Ex.name (v := iv (b : Nat)) n5 (Ar.nil (Ca.max2 (hA₁ _).h (Ex.cint (Bo.add (Ar.nil (Ca.range2 fun rg hrg => ?_))))))))))))))))))))))))
  rw [show (if (b : Int) < (a : Int) then (b : Int) else (a : Int)) = ((min a b : Nat) : Int) from by split <;> omega, show (if (a : Int) < (b : Int) then (b : Int) else (a : Int)) + 1 = ((max a b + 1 : Nat) : Int) from by split <;> omega]
  have hlh : min a b ≤ max a b := by omega
  have hhN : max a b < R.length := by omega
  generalize min a b = lo at *
  generalize max a b = hi at *
  replace hD := hD.fresh hrg (c := .range (lo : Nat) ((hi + 1 : Nat) : Int))
  refine Ar.nil (Ca.listOfRange2 (hA₁ _).h fset_self (by omega) (by omega) fun st hst => ?_)
  have hstA : st ∉ dl :: As := fun q => by obtain ⟨c, e⟩ := hD.some q; rw [hst] at e; cases e
  replace hD := hD.fresh hst (c := .list ((List.range' lo (hi + 1 - lo)).map fun i : Nat => iv i))
  have hsl : IsL (fset (fset f₁₂ rg (.range (lo : Nat) ((hi + 1 : Nat) : Int))) st (.list ((List.range' lo (hi + 1 - lo)).map fun i : Nat => iv i))) st ((List.range' lo (hi + 1 - lo)).map fun i : Nat => iv i) := .inl fset_self
  generalize fset (fset f₁₂ rg (.range (lo : Nat) ((hi + 1 : Nat) : Int))) st (.list ((List.range' lo (hi + 1 - lo)).map fun i : Nat => iv i)) = f₁₃ at *
  clear hrg hst
  replace n1 : mset m₉ "stretch" (.ref st) "due" = some (.ref dl) := n1
  replace n2 : mset m₉ "stretch" (.ref st) "mask" = some (iv mask) := n2
  replace n3 : mset m₉ "stretch" (.ref st) "pairs" = some (.ref p) := n3
  have n4 : mset m₉ "stretch" (.ref st) "stretch" = some (.ref st) := rfl
  generalize mset m₉ "stretch" (.ref st) = m₁₀ at *
  clear n5 n8 n9
  have hC₁₃ := hC.ext hD.ext
  have hcl : ∀ k, k < hi + 1 - lo → ∃ r, R[lo + k]? = some r ∧ (clus R lo hi)[k]? = some r.2.2.cluster := fun k q => by
    have h1 : R[lo + k]? = some (R[lo + k]'(by omega)) := List.getElem?_eq_getElem _
    refine ⟨_, h1, ?_⟩
    unfold clus
    rw [List.getElem?_map, List.getElem?_take, if_pos q, List.getElem?_drop, h1]; rfl
  have hcn : (clus R lo hi).length = hi + 1 - lo := by unfold clus; rw [List.length_map, List.length_take, List.length_drop]; omega
  have hgr : ∀ k u, ((List.range' lo (hi + 1 - lo)).map fun i : Nat => iv i)[k]? = some u → k < hi + 1 - lo ∧ u = iv ((lo + k : Nat) : Int) := fun k u q => by
    have hlt := (List.getElem?_eq_some_iff.mp q).1
    rw [List.length_map, List.length_range'] at hlt
    rw [List.getElem?_map, List.getElem?_range' hlt] at q
    simp at q
    exact ⟨hlt, by rw [← q]; simp⟩
  -- low
  refine Ss.name (Ex.callF hG bi_min (Ar.cons (Ex.comp (cl := [("infos", L + 1)]) (Ex.name (v := .ref st) n4 ⟨st, (List.range' lo (hi + 1 - lo)).map fun i : Nat => iv i, _, fun k acc f' => f' = f₁₃ ∧ acc = ((clus R lo hi).take k).map iv,
    rfl, Src.list (hA₁ _).h hsl, by rw [List.length_map, List.length_range']; omega, ⟨rfl, rfl⟩, fun k acc f' ⟨e, e'⟩ => ⟨e ▸ hsl, by rw [e', List.length_map]; exact List.length_take_le ..⟩, ?_, ?_⟩) (by rfl))))
  · rintro k u acc _ C m₀ hu ⟨rfl, rfl⟩
    obtain ⟨hk', rfl⟩ := hgr k u hu
    obtain ⟨r₂, h1, h2⟩ := hcl k hk'
    refine tests0 ?_
    rw [if_pos rfl]
    refine Ex.infoAt hG hC₁₃ (by omega) rfl h1 (by simp) rfl rfl ⟨rfl, ?_⟩
    rw [List.take_add_one, h2, List.map_append]; rfl
  rintro acc f₁₃ ⟨rfl, rfl⟩ D₂ hD₂
  rw [List.length_map, List.length_range', List.take_of_length_le (by omega)]
  replace hD := hD.fresh hD₂ (c := .list ((clus R lo hi).map iv))
  replace hsl : IsL (fset f₁₃ D₂ (.list ((clus R lo hi).map iv))) st ((List.range' lo (hi + 1 - lo)).map fun i : Nat => iv i) := hsl.keep (fset_ne (hsl.ne hD₂))
  refine Ar.nil (Ca.min (hA₁ _).h (ns := clus R lo hi) (.inl fset_self) (by omega) fun M hM hle => ?_)
  rw [lst_eq hM hle]
  generalize fset f₁₃ D₂ (.list ((clus R lo hi).map iv)) = f₁₄ at *
  clear hM hle hC₁₃
  generalize lst (clus R lo hi) = low at *
  replace n1 : mset m₁₀ "low" (iv low) "due" = some (.ref dl) := n1
  replace n2 : mset m₁₀ "low" (iv low) "mask" = some (iv mask) := n2
  replace n3 : mset m₁₀ "low" (iv low) "pairs" = some (.ref p) := n3
  replace n4 : mset m₁₀ "low" (iv low) "stretch" = some (.ref st) := n4
  have n5 : mset m₁₀ "low" (iv low) "low" = some (iv low) := rfl
  generalize mset m₁₀ "low" (iv low) = m₁₁ at *
  have hGs : ∀ n x, (putG a b wv n (g₀ n x)).cluster = x.cluster := fun n x => ((putG_same ..).2).trans (hsame n x)
  generalize hg3 : (fun n x => putG a b wv n (g₀ n x)) = g₃ at *
  have hg3' : ∀ n x, putG a b wv n (g₀ n x) = g₃ n x := fun n x => by rw [← hg3]
  simp only [hg3'] at hfin hGs
  clear hg3 hg3' hD₂ had hbd hsame
  refine Ss.cons (St1.for (Ex.name (v := .ref st) n4 ⟨st, (List.range' lo (hi + 1 - lo)).map fun i : Nat => iv i, _, fun k m' f' => m' "due" = some (.ref dl) ∧ m' "mask" = some (iv mask) ∧ m' "pairs" = some (.ref p) ∧ m' "low" = some (iv low) ∧ IsL f' st ((List.range' lo (hi + 1 - lo)).map fun i : Nat => iv i) ∧ Du f₀ f' dl As (fun n x => hangG lo (lo + k) low n (g₃ n x)) R,
    rfl, Src.list (hA₁ _).h hsl, ⟨n1, n2, n3, n5, hsl, hD.fun fun i r _ => by unfold hangG; rw [if_neg (by omega)]⟩, fun _ _ _ q => q.2.2.2.2.1, ?_, ?_⟩))
  rotate_left
  · rintro m' f' ⟨d1, d2, d3, -, -, hD⟩
    refine Ss.nilA (Ss.nil ⟨rfl, d1, d2, d3, hD.fun fun i r _ => ?_⟩)
    rw [hfin, List.length_map, List.length_range', show lo + (hi + 1 - lo) = hi + 1 by omega]
  rintro k' u m' f' hu ⟨d1, d2, d3, d4, hsl, hD⟩
  obtain ⟨hk', rfl⟩ := hgr k' u hu
  obtain ⟨r₂, hr₂, -⟩ := hcl k' hk'
  obtain ⟨ak, hak⟩ : ∃ x, As[lo + k']? = some x := ⟨_, List.getElem?_eq_getElem (by rw [hD.len]; exact (List.getElem?_eq_some_iff.mp hr₂).1)⟩
  have hakA := List.mem_of_getElem? hak
  have hsta : st ≠ ak := by rintro rfl; exact hstA (.tail _ hakA)
  have e1 : mset m' "at" (iv ((lo + k' : Nat) : Int)) "due" = some (.ref dl) := d1
  have e2 : mset m' "at" (iv ((lo + k' : Nat) : Int)) "mask" = some (iv mask) := d2
  have e3 : mset m' "at" (iv ((lo + k' : Nat) : Int)) "pairs" = some (.ref p) := d3
  have e4 : mset m' "at" (iv ((lo + k' : Nat) : Int)) "low" = some (iv low) := d4
  have e5 : mset m' "at" (iv ((lo + k' : Nat) : Int)) "at" = some (iv ((lo + k' : Nat) : Int)) := rfl
  generalize mset m' "at" (iv ((lo + k' : Nat) : Int)) = m'' at *
  have hC' := hC.ext hD.ext
  have hlN := (List.getElem?_eq_some_iff.mp hr₂).1
  have hat := hD.at_ (lo + k') ak r₂ hak hr₂
  have hGc := hGs (lo + k') r₂.2.2
  have hold : hangG lo (lo + k') low (lo + k') (g₃ (lo + k') r₂.2.2) = g₃ (lo + k') r₂.2.2 := by unfold hangG; rw [if_neg (by omega)]
  rw [hold] at hat
  have hnext : ∀ v : Bool, v = (hangG lo (lo + (k' + 1)) low (lo + k') (g₃ (lo + k') r₂.2.2)).un → Du f₀ (fset f' ak (.vec ((tri (g₃ (lo + k') r₂.2.2)).set (Int.toNat 2) (.bool v)))) dl As (fun n x => hangG lo (lo + (k' + 1)) low n (g₃ n x)) R := fun v hv =>
    hD.set hak (fun r₁ h => by
      rw [hr₂] at h; cases h
      rw [hv]
      unfold hangG
      split <;> rfl) (fun j r₁ h n => by
      unfold hangG
      congr 1
      simp only [eq_iff_iff]
      omega)
  refine Ss.cons (St1.item (Ex.mono (P := fun v f₁ => v = .bool (hangG lo (lo + (k' + 1)) low (lo + k') (g₃ (lo + k') r₂.2.2)).un ∧ f₁ = f') ?_ fun v f₁ ⟨e, e'⟩ => ?_))
  · refine Ex.or2 (Ex.sub (Ex.sub (Ex.name (v := .ref dl) e1 (Ex.name (v := iv ((lo + k' : Nat) : Int)) e5 ⟨dl, _, As.map .ref, .ref ak, rfl, rfl, hD.isl, Int.natCast_nonneg _, by omega, by rw [Int.toNat_natCast, List.getElem?_map, hak]; rfl,
      Ex.cint ⟨ak, 2, tri (g₃ (lo + k') r₂.2.2), .bool (g₃ (lo + k') r₂.2.2).un, rfl, rfl, hat, by decide, by decide, rfl, Tt.bool ?_⟩⟩))))
    by_cases hu : (g₃ (lo + k') r₂.2.2).un = true
    · rw [if_pos hu]
      exact ⟨by unfold hangG; split; exact congrArg _ hu; rfl, rfl⟩
    · rw [if_neg hu]
      refine Ex.bool1 (Ex.cmp (Ex.infoAt hG hC' (by omega) e5 hr₂ (by simp) rfl rfl (Ex.name (v := iv low) e4 (Co.ne ⟨?_, rfl⟩))))
      unfold hangG
      by_cases q : r₂.2.2.cluster = low
      · rw [if_neg (by rw [hGc]; simp [q])]; simp [q, hu]
      · rw [if_pos ⟨by omega, by omega, by rw [hGc]; exact q⟩]; simp [q, Inf.s_un]
  subst e e'
  exact Ex.sub (Ex.name (v := .ref dl) e1 (Ex.name (v := iv ((lo + k' : Nat) : Int)) e5 ⟨dl, _, As.map .ref, .ref ak, rfl, rfl, hD.isl, Int.natCast_nonneg _, by omega, by rw [Int.toNat_natCast, List.getElem?_map, hak]; rfl,
      Ex.cint ⟨ak, tri (g₃ (lo + k') r₂.2.2), 2, rfl, rfl, hat, by decide, by simp, by simp, andNext (Ss.nil ⟨rfl, e1, e2, e3, e4, hsl.keep (fset_ne hsta), hnext _ rfl⟩)⟩⟩))

end Mine

namespace Mine
-- W15
set_option maxRecDepth 100000
set_option maxHeartbeats 2000000
theorem fillit15 : (PySem.Challenge.rw_nu0162_01 = PySem.Challenge.rw_nu0162_01) ∧ (∀ P, KK P = KK P) := by
  k_fill
  exact ⟨rfl, fun _ => rfl⟩
variable {w : World} {h₀ : Heap} {A : Around} {f f' f'' : Fh}
theorem df_cls {P : Params} : DefOk (KK P) "ClassDef" 185 := ⟨by k_is, by k_is⟩
theorem df_buf {P : Params} : DefOk (KK P) "Buffer" 98 := ⟨by k_is, by k_is⟩
theorem df_gdef {P : Params} : DefOk (KK P) "Gdef" 233 := ⟨by k_is, by k_is⟩
theorem df_apply {P : Params} : DefOk (KK P) "apply_kern" 142 := ⟨by k_is, by k_is⟩
theorem cls_cls {P : Params} : ClsOk (KK P) 185 156 := ⟨by k_is, by k_is, by k_is⟩
theorem cls_buf {P : Params} : ClsOk (KK P) 98 71 := ⟨by k_is, by k_is, by k_is⟩
theorem cls_gdef {P : Params} : ClsOk (KK P) 233 204 := ⟨by k_is, by k_is, by k_is⟩
theorem Ts.or1 {X : Cx} {m : Loc} {a : Expr} {rest : List Expr} {pos : Pos} {P : Bool → Fh → Prop} (h : Ts X m f a fun c f₁ => if c = true then P true f₁ else TrB X m f₁ (isTrue (.BoolOp .Or rest pos) X.env (eval (.BoolOp .Or (a :: rest) pos) X.env)) P) :
    Ts X m f (.BoolOp .Or (a :: rest) pos) P := TrB.or1 h
/-- what the law's text holds: the pen, the row, the keys of the pairs, and cells that stand still -/
structure Lx (w : World) (f : Fh) (p pc : Addr) (n : Nat) (R : Rw) (xs : List (List Int × Addr × Value)) (Z : List (Addr × Cel)) : Prop where
  pen : IsPen f p pc n
  row : Row w f R
  keys : KeysAt f xs
  still : ∀ z ∈ Z, f z.1 = some z.2 ∧ z.1 ≠ p
section
variable {p pc a : Addr} {n : Nat} {R : Rw} {xs : List (List Int × Addr × Value)} {Z : List (Addr × Cel)} {o : Cel}
theorem Lx.get (h : Lx w f p pc n R xs Z) (q : (a, o) ∈ Z) : f a = some o := (h.still _ q).1
theorem Lx.draw (h : Lx w f p pc n R xs Z) (e : Ext [p] f f') (q : IsPen f' p pc (n + 1)) : Lx w f' p pc (n + 1) R xs Z :=
  ⟨q, h.row.pen h.pen e, fun x hx => e _ _ (h.keys x hx) (by simpa using h.pen.ne (notL (h.keys x hx) (fun _ q => by cases q) (fun _ q => by cases q))), fun z hz => ⟨e _ _ (h.still z hz).1 (by simpa using (h.still z hz).2), (h.still z hz).2⟩⟩
theorem Lx.ext0 (h : Lx w f p pc n R xs Z) (e : Ext [] f f') : Lx w f' p pc n R xs Z := by
  obtain ⟨cs, s, g, h1, h2, h3⟩ := h.pen
  exact ⟨⟨cs, s, g, e.isL h1 List.not_mem_nil, e.isL h2 List.not_mem_nil, h3⟩, h.row.ext e fun _ _ => ⟨List.not_mem_nil, List.not_mem_nil⟩, fun x hx => e _ _ (h.keys x hx) List.not_mem_nil, fun z hz => ⟨e _ _ (h.still z hz).1 List.not_mem_nil, (h.still z hz).2⟩⟩
theorem Lx.fresh (h : Lx w f p pc n R xs Z) (hD : f a = none) : Lx w (fset f a o) p pc n R xs Z := h.ext0 (Ext.new hD)
theorem Lx.nep (h : Lx w f p pc n R xs Z) (hD : f a = none) : a ≠ p := h.pen.ne (noneL hD)
theorem Lx.add (h : Lx w f p pc n R xs Z) (e : f a = some o) (q : a ≠ p) : Lx w f p pc n R xs ((a, o) :: Z) :=
  ⟨h.pen, h.row, h.keys, fun z hz => by rcases List.mem_cons.mp hz with rfl | hz; exact ⟨e, q⟩; exact h.still z hz⟩
theorem Lx.drop {Z' : List (Addr × Cel)} (h : Lx w f p pc n R xs Z) (q : ∀ z ∈ Z', z ∈ Z) : Lx w f p pc n R xs Z' := ⟨h.pen, h.row, h.keys, fun z hz => h.still z (q z hz)⟩
/-- a cell is set -/
theorem Lx.cell {v v' : Option Value} (h : Lx w f p pc n R xs Z) (e : f a = some (.cell v)) (q : ∀ z ∈ Z, z.1 ≠ a) : Lx w (fset f a (.cell v')) p pc n R xs ((a, .cell v') :: Z) := by
  have hL := notL e (fun _ q => by cases q) (fun _ q => by cases q)
  refine ⟨h.pen.keep hL, h.row.ext (M := [a]) (Ext.set (.head _)) fun r hr => ⟨fun q => ?_, fun q => ?_⟩, fun x hx => ?_, fun z hz => ?_⟩
  · rw [List.mem_singleton] at q; have := (h.row.2 r hr).1; rw [q, e] at this; cases this
  · rw [List.mem_singleton] at q; have := (h.row.2 r hr).2; rw [q, e] at this; cases this
  · rw [fset_ne (by rintro rfl; have := h.keys x hx; rw [e] at this; cases this)]; exact h.keys x hx
  · rcases List.mem_cons.mp hz with rfl | hz
    · exact ⟨fset_self, h.pen.ne hL⟩
    · rw [fset_ne (q z hz)]; exact h.still z hz
/-- the dict of pairs is set -/
theorem Lx.pairs {ks : List Int} {T : Addr} {v : Value} {ys : List (List Int × Addr × Value)} (h : Lx w f p pc n R xs Z) (e : f a = some (.pdict ys)) (q : ∀ z ∈ Z, z.1 ≠ a) (hT : f T = some (.tup (ks.map iv))) :
    Lx w (fset f a (.pdict (storedH xs ks T v))) p pc n R (storedH xs ks T v) Z := by
  have hL := notL e (fun _ q => by cases q) (fun _ q => by cases q)
  refine ⟨h.pen.keep hL, h.row.ext (M := [a]) (Ext.set (.head _)) fun r hr => ⟨fun q => ?_, fun q => ?_⟩, fun x hx => ?_, fun z hz => ?_⟩
  · rw [List.mem_singleton] at q; have := (h.row.2 r hr).1; rw [q, e] at this; cases this
  · rw [List.mem_singleton] at q; have := (h.row.2 r hr).2; rw [q, e] at this; cases this
  · have : f x.2.1 = some (.tup (x.1.map iv)) := by
      rcases mem_storedH hx with ⟨y, hy, e1, e2⟩ | ⟨e1, e2⟩
      · rw [e1, e2]; exact h.keys y hy
      · rw [e1, e2]; exact hT
    rw [fset_ne (fun q => by rw [q, e] at this; cases this)]; exact this
  · rw [fset_ne (q z hz)]; exact h.still z hz
end
theorem RowsAt.ext {M : List Addr} {l : Addr} {rows : List (List Value)} (h : RowsAt f l rows) (e : Ext M f f') (n : l ∉ M) (n' : ∀ T r, f T = some (.tup r) → T ∉ M) : RowsAt f' l rows := by
  obtain ⟨Ts, a, b, c⟩ := h
  exact ⟨Ts, e.isL a n, b, fun j T r h1 h2 => e _ _ (c j T r h1 h2) (n' T r (c j T r h1 h2))⟩
theorem RowsAt.ext0 {l : Addr} {rows : List (List Value)} (h : RowsAt f l rows) (e : Ext [] f f') : RowsAt f' l rows := h.ext e List.not_mem_nil fun _ _ _ => List.not_mem_nil
theorem RowsAt.nel {l a : Addr} {rows : List (List Value)} (h : RowsAt f l rows) (e : f a = none) : l ≠ a := by
  obtain ⟨Ts, q, _⟩ := h; exact q.ne e
theorem IsCls.ext0 {c : Addr} {kvs : List (Int × Value)} (h : IsCls w f c kvs) (e : Ext [] f f') : IsCls w f' c kvs := by
  obtain ⟨dc, D, a, b, d⟩ := h
  exact ⟨dc, D, e _ _ a List.not_mem_nil, e _ _ b List.not_mem_nil, e _ _ d List.not_mem_nil⟩
theorem IsBuf.ext0 {b bd rl : Addr} {back : Bool} (h : IsBuf w f b bd rl back) (e : Ext [] f f') : IsBuf w f' b bd rl back := h.ext e List.not_mem_nil List.not_mem_nil
theorem Ext.inst {x d C : Addr} {es : List DictEntry} (hx : f x = none) (hd : f d = none) (hne : x ≠ d) : Ext [] f (fset (fset f x (.inst C d)) d (.dict es)) :=
  (Ext.new hx).trans (Ext.new (by rw [fset_ne hne.symm]; exact hd))
/-- [(.., ..) for one in rows] -/
theorem CompOk.rows {X : Cx} {m : Loc} {scope : Scope} {cl : List (PySem.Str × Addr)} {iter elt : Expr} {il : Addr} {R : Rw} {row : Inf → List Value} {P : List Value → Fh → Prop} (hA : X.A.handled = none) (hil : IsL f il (refs R)) (hz : R.length ≤ 1000)
    (hi : ∀ Q : Value → Fh → Prop, Q (.ref il) f → Ex X m f iter Q)
    (helt : ∀ (i : Nat) (r : Addr × Addr × Inf) f₂ C m₀, R[i]? = some r → Ext [] f f₂ → Ex (X.comp scope cl C) (mset m₀ "one" (.ref r.1)) f₂ elt fun v f₃ => ∃ T, v = .ref T ∧ f₂ T = none ∧ f₃ = fset f₂ T (.tup (row r.2.2)))
    (h : ∀ acc f', Ext [] f f' → (∀ D, f' D = none → Ext [] f (fset f' D (.list acc)) ∧ RowsAt (fset f' D (.list acc)) D (R.map fun r => row r.2.2)) → P acc f') : CompOk X m f scope cl "one" iter elt [] P := by
  refine hi _ ⟨il, refs R, _, fun k acc f' => Ext [] f f' ∧ ∃ Ts : List Addr, acc = Ts.map .ref ∧ Ts.length = k ∧ ∀ (j : Nat) (T : Addr) (r : Addr × Addr × Inf), Ts[j]? = some T → R[j]? = some r → f' T = some (.tup (row r.2.2)), rfl, Src.list hA hil, by rw [List.length_map]; omega,
    ⟨.refl, [], rfl, rfl, fun _ _ _ q => (nomatch q)⟩, fun k acc f' ⟨e, Ts, b, c, _⟩ => ⟨e.isL hil List.not_mem_nil, by rw [b, List.length_map]; omega⟩, ?_, ?_⟩
  · rintro k u acc f₂ C m₀ hu ⟨e, Ts, rfl, hlen, hat⟩
    rw [refs_get] at hu
    obtain ⟨r, hr, rfl⟩ := Option.map_eq_some_iff.mp hu
    refine tests0 ?_
    rw [if_pos rfl]
    refine (helt k r f₂ C m₀ hr e).mono fun v f₃ ⟨T, e1, hT, e2⟩ => ?_
    subst e1 e2
    refine ⟨e.trans (Ext.new hT), Ts ++ [T], by rw [List.map_append]; rfl, by rw [List.length_append, hlen]; rfl, fun j T' r' h1 h2 => ?_⟩
    by_cases q : j < Ts.length
    · rw [List.getElem?_append_left q] at h1
      have := hat j T' r' h1 h2
      rw [fset_ne (by rintro rfl; rw [hT] at this; cases this)]; exact this
    · have : j = Ts.length := by have := (List.getElem?_eq_some_iff.mp h1).1; rw [List.length_append] at this; simp at this; omega
      subst this
      rw [List.getElem?_append_right (Nat.le_refl _), Nat.sub_self] at h1
      cases h1
      rw [hlen, hr] at h2; cases h2
      exact fset_self
  rintro acc f₂ ⟨e, Ts, rfl, hlen, hat⟩
  rw [List.length_map] at hlen
  refine h _ _ e fun D hD => ⟨e.trans (Ext.new hD), Ts, .inl fset_self, by rw [List.length_map, hlen], fun j T row' h1 h2 => ?_⟩
  rw [List.getElem?_map] at h2
  obtain ⟨r, hr, rfl⟩ := Option.map_eq_some_iff.mp h2
  have := hat j T r h1 hr
  rw [fset_ne (by rintro rfl; rw [hD] at this; cases this)]; exact this
/-- [(.., ..) for x in ..] -/
theorem CompOk.tups {X : Cx} {m : Loc} {scope : Scope} {cl : List (PySem.Str × Addr)} {x : PySem.Str} {iter elt : Expr} {rows : List (List Value)} {P : List Value → Fh → Prop}
    (hi : Ex X m f iter fun v f₁ => ∃ l vs need, v = .ref l ∧ Src X f₁ l vs need ∧ Ext [] f f₁ ∧ (∀ f₂, Ext [] f₁ f₂ → need f₂) ∧ vs.length = rows.length ∧ vs.length ≤ 1000 ∧
      (∀ (i : Nat) u r f₂ C m₀, vs[i]? = some u → rows[i]? = some r → Ext [] f₁ f₂ → Ex (X.comp scope cl C) (mset m₀ x u) f₂ elt fun v f₃ => ∃ T, v = .ref T ∧ f₂ T = none ∧ f₃ = fset f₂ T (.tup r)) ∧
      ∀ acc f', Ext [] f f' → (∃ Ts : List Addr, acc = Ts.map .ref ∧ Ts.length = rows.length ∧ ∀ (j : Nat) (T : Addr) r, Ts[j]? = some T → rows[j]? = some r → f' T = some (.tup r)) → P acc f') : CompOk X m f scope cl x iter elt [] P := by
  refine Ex.mono hi fun v f₁ ⟨l, vs, need, e, src, e₁, hn, hlen, hz, helt, h⟩ => ?_
  refine ⟨l, vs, need, fun k acc f' => Ext [] f₁ f' ∧ ∃ Ts : List Addr, acc = Ts.map .ref ∧ Ts.length = k ∧ ∀ (j : Nat) (T : Addr) r, Ts[j]? = some T → rows[j]? = some r → f' T = some (.tup r), e, src, hz,
    ⟨.refl, [], rfl, rfl, fun _ _ _ q => (nomatch q)⟩, fun k acc f' ⟨e, Ts, b, c, _⟩ => ⟨hn _ e, by rw [b, List.length_map]; omega⟩, ?_, ?_⟩
  · rintro k u acc f₂ C m₀ hu ⟨e, Ts, rfl, hlen', hat⟩
    have hr : rows[k]? = some (rows[k]'(by rw [← hlen]; exact (List.getElem?_eq_some_iff.mp hu).1)) := List.getElem?_eq_getElem _
    generalize rows[k]'(by rw [← hlen]; exact (List.getElem?_eq_some_iff.mp hu).1) = r at hr
    refine tests0 ?_
    rw [if_pos rfl]
    refine (helt k u r f₂ C m₀ hu hr e).mono fun v f₃ ⟨T, e1, hT, e2⟩ => ?_
    subst e1 e2
    refine ⟨e.trans (Ext.new hT), Ts ++ [T], by rw [List.map_append]; rfl, by rw [List.length_append, hlen']; rfl, fun j T' r' h1 h2 => ?_⟩
    by_cases q : j < Ts.length
    · rw [List.getElem?_append_left q] at h1
      have := hat j T' r' h1 h2
      rw [fset_ne (by rintro rfl; rw [hT] at this; cases this)]; exact this
    · have : j = Ts.length := by have := (List.getElem?_eq_some_iff.mp h1).1; rw [List.length_append] at this; simp at this; omega
      subst this
      rw [List.getElem?_append_right (Nat.le_refl _), Nat.sub_self] at h1
      cases h1
      rw [hlen', hr] at h2; cases h2
      exact fset_self
  rintro acc f₂ ⟨e, Ts, rfl, hlen', hat⟩
  exact h _ _ (e₁.trans e) ⟨Ts, rfl, hlen'.trans hlen, hat⟩
/-- the rows that the law compares -/

abbrev quin (x : Inf) : List Value := [iv x.glyph, iv x.cluster, iv x.mask, iv x.ya, iv x.yo, iv x.parent, sv x.bond]
section
variable {env : Env} {m : Loc} {r : Addr × Addr × Inf} {k : Nat} {P : Value → Fh → Prop}
abbrev inf (n : PySem.Str) (px pos : Pos) : Expr := .Attribute (.Name "one" px) n pos
theorem Ex.rowX {p₁ p₂ p₃ q₁ q₂ q₃ pos : Pos} (hG : (GG w h₀).Ok) (hm : m "one" = some (.ref r.1)) (hI : IsInfo w f r.1 r.2.1 r.2.2)
    (h : ∀ T, f T = none → P (.ref T) (fset f T (.tup (tri r.2.2)))) (hk : env.scope.kind = .function := by rfl) (hl : env.kindOf "one" = some .local := by rfl) :
    Ex ⟨GG w h₀, A, env⟩ m f (.Tuple [inf "x_advance" p₁ q₁, inf "x_offset" p₂ q₂, inf "is_unsafe" p₃ q₃] k pos) P := by
  refine Ex.tup (Ar.cons (Ex.info hG (Ex.name hm ⟨r.1, r.2.1, r.2.2, iv r.2.2.xa, rfl, hI, by simp, rfl, rfl, ?_⟩ hk hl (by decide))))
  refine Ar.cons (Ex.info hG (Ex.name hm ⟨r.1, r.2.1, r.2.2, iv r.2.2.xo, rfl, hI, by simp, rfl, rfl, ?_⟩ hk hl (by decide)))
  refine Ar.cons (Ex.info hG (Ex.name hm ⟨r.1, r.2.1, r.2.2, .bool r.2.2.un, rfl, hI, by simp, rfl, rfl, ?_⟩ hk hl (by decide)))
  exact Ar.nil ⟨by simp, h⟩
theorem Ex.rowY {p₁ p₂ p₃ p₄ p₅ p₆ p₇ q₁ q₂ q₃ q₄ q₅ q₆ q₇ pos : Pos} (hG : (GG w h₀).Ok) (hm : m "one" = some (.ref r.1)) (hI : IsInfo w f r.1 r.2.1 r.2.2)
    (h : ∀ T, f T = none → P (.ref T) (fset f T (.tup (quin r.2.2)))) (hk : env.scope.kind = .function := by rfl) (hl : env.kindOf "one" = some .local := by rfl) :
    Ex ⟨GG w h₀, A, env⟩ m f (.Tuple [inf "glyph" p₁ q₁, inf "cluster" p₂ q₂, inf "mask" p₃ q₃, inf "y_advance" p₄ q₄, inf "y_offset" p₅ q₅, inf "parent" p₆ q₆, inf "bond" p₇ q₇] k pos) P := by
  refine Ex.tup (Ar.cons (Ex.info hG (Ex.name hm ⟨r.1, r.2.1, r.2.2, iv r.2.2.glyph, rfl, hI, by simp, rfl, rfl, ?_⟩ hk hl (by decide))))
  refine Ar.cons (Ex.info hG (Ex.name hm ⟨r.1, r.2.1, r.2.2, iv r.2.2.cluster, rfl, hI, by simp, rfl, rfl, ?_⟩ hk hl (by decide)))
  refine Ar.cons (Ex.info hG (Ex.name hm ⟨r.1, r.2.1, r.2.2, iv r.2.2.mask, rfl, hI, by simp, rfl, rfl, ?_⟩ hk hl (by decide)))
  refine Ar.cons (Ex.info hG (Ex.name hm ⟨r.1, r.2.1, r.2.2, iv r.2.2.ya, rfl, hI, by simp, rfl, rfl, ?_⟩ hk hl (by decide)))
  refine Ar.cons (Ex.info hG (Ex.name hm ⟨r.1, r.2.1, r.2.2, iv r.2.2.yo, rfl, hI, by simp, rfl, rfl, ?_⟩ hk hl (by decide)))
  refine Ar.cons (Ex.info hG (Ex.name hm ⟨r.1, r.2.1, r.2.2, iv r.2.2.parent, rfl, hI, by simp, rfl, rfl, ?_⟩ hk hl (by decide)))
  refine Ar.cons (Ex.info hG (Ex.name hm ⟨r.1, r.2.1, r.2.2, sv r.2.2.bond, rfl, hI, by simp, rfl, rfl, ?_⟩ hk hl (by decide)))
  exact Ar.nil ⟨by simp, h⟩
end

end Mine

namespace Mine
-- W16
set_option maxRecDepth 100000
set_option maxHeartbeats 4000000
theorem fillit16 : (PySem.Challenge.rw_nu0162_01 = PySem.Challenge.rw_nu0162_01) ∧ (∀ P, KK P = KK P) := by
  k_fill
  exact ⟨rfl, fun _ => rfl⟩
variable {w : World} {h₀ : Heap} {A : Around} {f f' f'' : Fh}
theorem law_spec {sc : Addr} {is : List Int} {P : Value → Fh → Prop} (hG : (GG w h₀).Ok) (hA : Rm 8 A) (hl : BaseL h₀ sc (is.map iv)) (hz : is.length ≤ 63) (h : ∀ f', P (.bool true) f') : Cd (GG w h₀) A f 273 [.ref sc] P := by
  refine Cd.enterC (n₁ := "pen") (n₂ := "marks") (c₁ := none) (c₂ := none) (eb := [("script", .ref sc)]) (ml := fun x => if x = "script" then some (.ref sc) else none) hG (ho_lit (by dsimp only; k_is) rfl) (by dsimp only; k_is) hA.room (fun us e => ?_) rfl (fun L => rfl) (by decide) (fun L x => rfl) (fun L => rfl) (fun L => rfl) fun L l0 l1 l2 => ?_
  · obtain ⟨u, rfl, e₁⟩ := map1 e
    exact ⟨[("script", u)], fun s _ => BindsTo.of_eq rfl, by simp only [List.map_cons, List.map_nil, e₁]⟩
  have hA₁ := fun env => hA.deeper (env := env)
  have hne : L + 1 ≠ L + 1 + 1 := Nat.ne_of_lt (Nat.lt_succ_self _)
  have hc1 : fset (fset f (L + 1) (.cell none)) (L + 1 + 1) (.cell none) (L + 1) = some (.cell none) := by rw [fset_ne hne, fset_self]
  have hc2 : fset (fset f (L + 1) (.cell none)) (L + 1 + 1) (.cell none) (L + 1 + 1) = some (.cell none) := fset_self
  generalize fset (fset f (L + 1) (.cell none)) (L + 1 + 1) (.cell none) = f₀ at *
  clear l0 l1 l2
  -- pen, infos
  refine Ss.cons (St1.nameC (Ex.callD hG df_pen (Ar.cons (Ex.name (v := .ref sc) rfl (Ar.nil (Ca.def (pen_spec hG ((hA₁ _).mono (by decide)) hl hz fun p pc f₁ hp0 hpc0 e₁ hp => ⟨none, e₁ _ _ hc1 List.not_mem_nil, andNext ?_⟩)))))) rfl)
  replace hc1 := e₁ _ _ hc1 List.not_mem_nil
  replace hc2 := e₁ _ _ hc2 List.not_mem_nil
  replace hp := hp.keep (o := .cell (some (.ref p))) (notL hc1 (fun _ q => by cases q) (fun _ q => by cases q))
  have hc1p : L + 1 ≠ p := hp.ne (notL fset_self (fun _ q => by cases q) (fun _ q => by cases q))
  replace hc1 : fset f₁ (L + 1) (.cell (some (.ref p))) (L + 1) = some (.cell (some (.ref p))) := fset_self
  replace hc2 : fset f₁ (L + 1) (.cell (some (.ref p))) (L + 1 + 1) = some (.cell none) := by rw [fset_ne hne.symm]; exact hc2
  generalize fset f₁ (L + 1) (.cell (some (.ref p))) = f₂ at *
  clear hl hz e₁ hp0 hpc0
  have hc2p : L + 1 + 1 ≠ p := hp.ne (notL hc2 (fun _ q => by cases q) (fun _ q => by cases q))
  refine Ss.name (Ex.callD hG df_row (Ar.cons (Ex.cell rfl hc1 (Ar.nil (Ca.def (row_spec hG ((hA₁ _).mono (by decide)) hp (by decide) fun il R f₃ hR hbo hs => ?_))))))
  have hx : Lx w f₃ p pc (0 + 57) R [] [(L + 1, .cell (some (.ref p))), (L + 1 + 1, .cell none), (il, .list (refs R))] := ⟨hs.pen, hs.row, fun _ q => (nomatch q), fun z hz => by
    simp only [List.mem_cons, List.not_mem_nil, or_false] at hz
    rcases hz with rfl | rfl | rfl
    · exact ⟨hs.ext _ _ hc1 (by simpa using hc1p), hc1p⟩
    · exact ⟨hs.ext _ _ hc2 (by simpa using hc2p), hc2p⟩
    · exact ⟨hs.list, hs.hlp⟩⟩
  clear hs hp hc1 hc2
  have hm1 : mset (fun x => if x = "script" then some (.ref sc) else none) "infos" (.ref il) "infos" = some (.ref il) := rfl
  generalize mset (fun x => if x = "script" then some (.ref sc) else none) "infos" (.ref il) = m₁ at *
  -- marks
  refine Ss.cons (St1.nameC (Ex.comp (cl := [("pen", L + 1)]) (Ex.callT hG bi_range (Ar.cons (Ex.cint (Ar.nil (Ca.range1 fun r hr => ⟨r, _, _, fun k acc f' => ∃ mk : List Int, acc = mk.map iv ∧ mk.length ≤ k ∧ Lx w f' p pc (57 + k) R [] [(L + 1, .cell (some (.ref p))), (L + 1 + 1, .cell none), (il, .list (refs R))],
    rfl, Src.range (hA₁ _).h fset_self (by decide) (by decide) (by decide) rfl, by decide, ⟨[], rfl, by decide, hx.fresh hr⟩, fun k acc f' ⟨mk, a, b, _⟩ => ⟨trivial, by rw [a, List.length_map]; exact b⟩, ?_, ?_⟩))))) (by rfl)) rfl)
  · rintro k u acc f₄ C m₀ hu ⟨mk, rfl, hlen, hx⟩
    have hk : k < 6 := by
      have := (List.getElem?_eq_some_iff.mp hu).1
      rw [List.length_map, List.length_range] at this; exact this
    rw [List.getElem?_map, show (6 - 0 : Int).toNat = 6 from rfl, List.getElem?_range hk] at hu
    cases hu
    refine tests1 (Ts.cmp (Ex.draw hG ((hA₁ _).mono (by decide)) (fun _ q => Ex.cell rfl (hx.get (.head _)) q) hx.pen (by omega) (by decide) (by decide) fun d f₅ _ _ e q => Ex.cint (Co.eq ⟨_, rfl, ?_⟩)))
    replace hx := hx.draw e q
    by_cases hd : d = 0
    · rw [if_pos (by simp [hd])]
      refine Ex.name (v := iv (0 + (k : Nat))) rfl ⟨mk ++ [0 + (k : Int)], by rw [List.map_append]; rfl, by rw [List.length_append]; simp; omega, hx⟩
    · rw [if_neg (by simp [hd])]
      exact ⟨mk, rfl, by omega, hx⟩
  clear hx
  rintro acc f₄ ⟨mk, rfl, hmk, hx⟩ ml hml
  have hmlp := hx.nep hml
  have hml2 : ml ≠ L + 1 + 1 := by rintro rfl; have := hx.get (a := L + 1 + 1) (o := .cell none) (by simp); rw [hml] at this; cases this
  have hil2 : il ≠ L + 1 + 1 := by rintro rfl; have := (hx.get (a := L + 1 + 1) (o := .cell none) (by simp)).symm.trans (hx.get (a := L + 1 + 1) (o := .list (refs R)) (by simp)); cases this
  replace hx := (hx.fresh hml (o := .list (mk.map iv))).add fset_self hmlp
  refine ⟨none, hx.get (by simp), andNext ?_⟩
  replace hx := (hx.drop (Z' := [(ml, .list (mk.map iv)), (L + 1, .cell (some (.ref p))), (il, .list (refs R))]) (fun z hz => by simp at hz ⊢; rcases hz with h | h | h <;> simp [h])).cell (v' := some (.ref ml)) (hx.get (a := L + 1 + 1) (o := .cell none) (by simp)) (fun z hz => by
    simp only [List.mem_cons, List.not_mem_nil, or_false] at hz
    rcases hz with rfl | rfl | rfl
    · exact hml2
    · exact hne
    · exact hil2)
  generalize fset (fset f₄ ml (.list (mk.map iv))) (L + 1 + 1) (.cell (some (.ref ml))) = f₅ at *
  clear hml hml2 hil2 hc1p hc2p
  rw [List.length_map, List.length_range] at hx hmk
  replace hx : Lx w f₅ p pc 63 R [] [(L + 1 + 1, .cell (some (.ref ml))), (ml, .list (mk.map iv)), (L + 1, .cell (some (.ref p))), (il, .list (refs R))] := hx
  replace hmk : mk.length ≤ 6 := hmk
  -- pairs
  refine Ss.name (Ex.dictP fun pd hpd => ?_)
  have hpdZ : ∀ z ∈ [(L + 1 + 1, Cel.cell (some (.ref ml))), (ml, .list (mk.map iv)), (L + 1, .cell (some (.ref p))), (il, .list (refs R))], z.1 ≠ pd := fun z hz q => by have := (hx.still z hz).1; rw [q, hpd] at this; cases this
  have hpdp := hx.nep hpd
  replace hx := hx.fresh hpd (o := .pdict [])
  have hpd0 : fset f₅ pd (.pdict []) pd = some (.pdict []) := fset_self
  generalize fset f₅ pd (.pdict []) = f₆ at *
  have o1 : mset m₁ "pairs" (.ref pd) "infos" = some (.ref il) := hm1
  have o2 : mset m₁ "pairs" (.ref pd) "pairs" = some (.ref pd) := rfl
  generalize mset m₁ "pairs" (.ref pd) = m₂ at *
  clear hm1 hpd
  generalize hZ : [(L + 1 + 1, Cel.cell (some (.ref ml))), (ml, .list (mk.map iv)), (L + 1, .cell (some (.ref p))), (il, .list (refs R))] = Z at *
  have hZp : (L + 1, Cel.cell (some (.ref p))) ∈ Z := by rw [← hZ]; simp
  refine Ss.cons (St1.for (Ex.callT hG bi_range (Ar.cons (Ex.draw hG ((hA₁ _).mono (by decide)) (fun _ q => Ex.cell rfl (hx.get hZp) q) hx.pen (by decide) (by decide) (by decide) fun d f₇ d0 d1 e q => Ar.nil (Ca.range1 fun r hr => ?_)))))
  have hpd1 : f₇ pd = some (.pdict []) := e _ _ hpd0 (by simpa using hpdp)
  replace hx := hx.draw e q
  have hpdr : pd ≠ r := by rintro rfl; rw [hpd1] at hr; cases hr
  refine ⟨r, _, _, fun k m' f' => m' "infos" = some (.ref il) ∧ m' "pairs" = some (.ref pd) ∧ ∃ xs j, j = 64 + 3 * k ∧ Prs xs k ∧ f' pd = some (.pdict xs) ∧ Lx w f' p pc j R xs Z, rfl, Src.range (hA₁ _).h fset_self d0 (by decide) (by omega) rfl,
    ⟨o1, o2, [], _, rfl, Prs.nil, by rw [fset_ne hpdr]; exact hpd1, hx.fresh hr⟩, fun _ _ _ _ => trivial, ?_, ?_⟩
  · clear o1 o2 hpd0 hpd1 hx e q
    rintro k u m' f' hu ⟨o1, o2, xs, j, hj, hxs, hpd, hx⟩
    have hk : (k : Int) < d := by
      have := (List.getElem?_eq_some_iff.mp hu).1
      rw [List.length_map, List.length_range] at this; omega
    clear hu
    replace o1 : mset m' "lap" u "infos" = some (.ref il) := o1
    replace o2 : mset m' "lap" u "pairs" = some (.ref pd) := o2
    generalize mset m' "lap" u = m'' at *
    replace hx := hx.add hpd hpdp
    refine Ss.cons (St1.itemP (Nat.lt_of_le_of_lt (Nat.add_le_add_left (by decide) _) (hA₁ _).line) (Ex.callD hG df_pick (Ar.cons (Ex.cell rfl (hx.get (.tail _ hZp)) (Ar.cons (Ex.list (Ar.cons (Ex.neg (Ex.cint ⟨7, rfl, Ar.cons (Ex.cint (Ar.cons (Ex.cint (Ar.cons (Ex.cint (Ar.cons (Ex.neg (Ex.cint ⟨2, rfl, Ar.cons (Ex.cint (Ar.cons (Ex.neg (Ex.cint ⟨1, rfl, Ar.nil ⟨by simp, fun D hD => Ar.nil (Ca.def ?_)⟩⟩))))⟩))))))))⟩)))))))))
    have hDp := hx.nep hD
    replace hx := hx.fresh hD (o := .list [iv (-7), iv 4, iv 1, iv 0, iv (-2), iv 300, iv (-1)])
    refine pick_spec hG ((hA₁ _).mono (by decide)) hx.pen (by omega) (.inl fset_self) (by simp) (by simp) hDp fun v f₈ hv e q => ?_
    obtain ⟨i, rfl⟩ : ∃ i, v = iv i := by
      simp only [List.mem_cons, List.not_mem_nil, or_false] at hv
      rcases hv with rfl | rfl | rfl | rfl | rfl | rfl | rfl <;> exact ⟨_, rfl⟩
    replace hx := hx.draw e q
    clear e q hv
    refine Ex.name (v := .ref pd) o2 (Ex.tup (Ar.cons (Ex.draw hG ((hA₁ _).mono (by decide)) (fun _ q => Ex.cell rfl (hx.get (.tail _ hZp)) q) hx.pen (by omega) (by decide) (by decide) fun a f₉ a0 a1 e q => ?_)))
    replace hx := hx.draw e q
    clear e q
    refine Ar.cons (Ex.draw hG ((hA₁ _).mono (by decide)) (fun _ q => Ex.cell rfl (hx.get (.tail _ hZp)) q) hx.pen (by omega) (by decide) (by decide) fun b f₁₀ b0 b1 e q => Ar.nil ⟨by simp, fun T hT => ?_⟩)
    replace hx := (hx.draw e q).fresh hT (o := .tup [iv a, iv b])
    clear e q
    have hl := hxs.len
    refine ⟨pd, xs, T, [a, b], rfl, rfl, hx.get (.head _), hx.keys, fset_self, by omega, andNext (Ss.nil ⟨rfl, o1, o2, storedH xs [a, b] T (iv i), j + 3, by omega, hxs.store (grid_mem a0 a1 b0 b1), fset_self, ?_⟩)⟩
    exact (hx.drop fun z hz => .tail _ hz).pairs (ks := [a, b]) (hx.get (.head _)) hpdZ fset_self
  clear o1 o2 hpd0 hpd1 hx e q hpdr hr
  rintro m' f' ⟨o1, o2, xs, j, hj, hxs, hpd, hx⟩
  rw [List.length_map, List.length_range] at hj hxs
  have hj121 : j ≤ 121 := by omega
  have hxl : xs.length ≤ 20 := by have := hxs.len; omega
  clear hj
  refine andNext ?_
  replace hx := hx.add hpd hpdp
  rw [← hZ] at hx
  clear hpdZ hpd hZp hZ
  -- is_backward, mask
  refine Ss.cons (St1.tupS (hA₁ _).h (Ex.tup (Ar.cons (Ex.cmp (Ex.draw hG ((hA₁ _).mono (by decide)) (fun _ q => Ex.cell rfl (hx.get (a := L + 1) (o := .cell (some (.ref p))) (by simp)) q) hx.pen (by omega) (by decide) (by decide) fun bk f₈ _ _ e q => Ex.cint (Co.eq ?_))))))
  replace hx := hx.draw e q
  clear e q
  refine Ar.cons (Ex.callD hG df_pick (Ar.cons (Ex.cell rfl (hx.get (a := L + 1) (o := .cell (some (.ref p))) (by simp)) (Ar.cons (Ex.list (Ar.cons (Ex.cint (Ar.cons (Ex.cint (Ar.cons (Ex.cint (Ar.nil ⟨by simp, fun D hD => Ar.nil (Ca.def ?_)⟩))))))))))))
  have hDp := hx.nep hD
  replace hx := hx.fresh hD (o := .list [iv 2, iv 4, iv 3])
  refine pick_spec hG ((hA₁ _).mono (by decide)) hx.pen (by omega) (.inl fset_self) (by simp) (by simp) hDp fun v f₉ hv e q => ?_
  obtain ⟨mask, rfl⟩ : ∃ i, v = iv i := by
    simp only [List.mem_cons, List.not_mem_nil, or_false] at hv
    rcases hv with rfl | rfl | rfl <;> exact ⟨_, rfl⟩
  replace hx := hx.draw e q
  clear e q hv hDp
  generalize (bk == 1) = back
  refine Ar.nil ⟨by simp, fun T hT => ⟨T, _, _, rfl, fset_self, andNext ?_⟩⟩
  replace hx := hx.fresh hT (o := .tup [.bool back, iv mask])
  generalize fset f₉ T (.tup [.bool back, iv mask]) = f₁ at *
  replace o1 : mset (mset m' "mask" (iv mask)) "is_backward" (.bool back) "infos" = some (.ref il) := o1
  replace o2 : mset (mset m' "mask" (iv mask)) "is_backward" (.bool back) "pairs" = some (.ref pd) := o2
  have o3 : mset (mset m' "mask" (iv mask)) "is_backward" (.bool back) "mask" = some (iv mask) := rfl
  have o4 : mset (mset m' "mask" (iv mask)) "is_backward" (.bool back) "is_backward" = some (.bool back) := rfl
  generalize mset (mset m' "mask" (iv mask)) "is_backward" (.bool back) = m₁ at *
  clear hT
  -- due
  have hilf : f₁ il = some (.list (refs R)) := hx.get (by simp)
  refine Ss.name (Ex.callD hG df_due (Ar.cons (Ex.name (v := .ref il) o1 (Ar.cons (Ex.name (v := .bool back) o4 (Ar.cons (Ex.name (v := .ref pd) o2 (Ar.cons (Ex.cell rfl (hx.get (a := L + 1 + 1) (o := .cell (some (.ref ml))) (by simp)) (Ar.cons (Ex.name (v := iv mask) o3 (Ar.nil (Ca.def (due_spec (cl := clsOf mk) hG ((hA₁ _).mono (by decide)) (.inl hilf) hx.row hR (.inl (hx.get (a := ml) (o := .list (mk.map iv)) (by simp))) (hx.get (a := pd) (o := .pdict xs) (by simp)) hx.keys hxs.pv (clsOf_3 mk) fun dl f₂ e hdue => ?_))))))))))))))
  replace hx := hx.ext0 e
  rw [← kern_due] at hdue
  clear e hilf
  replace o1 : mset m₁ "due" (.ref dl) "infos" = some (.ref il) := o1
  replace o2 : mset m₁ "due" (.ref dl) "pairs" = some (.ref pd) := o2
  replace o3 : mset m₁ "due" (.ref dl) "mask" = some (iv mask) := o3
  replace o4 : mset m₁ "due" (.ref dl) "is_backward" = some (.bool back) := o4
  have o5 : mset m₁ "due" (.ref dl) "due" = some (.ref dl) := rfl
  generalize mset m₁ "due" (.ref dl) = m₂ at *
  -- kept
  refine Ss.cons (St1.comp (CompOk.rows (row := quin) (hA₁ _).h (.inl (hx.get (a := il) (o := .list (refs R)) (by simp))) (by omega) (fun Q q => Ex.name (v := .ref il) o1 q) (fun i r f₂ C m₀ hr e => Ex.rowY hG rfl ((hx.ext0 e).row.get hr) fun T hT => ⟨T, rfl, hT, rfl⟩) fun acc f₃ e hrow kl hkl => andNext ?_) (closureFor_none (by decide)))
  obtain ⟨e', hkept⟩ := hrow kl hkl
  replace hx := hx.ext0 e'
  replace hdue := hdue.ext0 e'
  generalize fset f₃ kl (.list acc) = f₄ at *
  clear hrow hkl e e'
  replace o1 : mset m₂ "kept" (.ref kl) "infos" = some (.ref il) := o1
  replace o2 : mset m₂ "kept" (.ref kl) "pairs" = some (.ref pd) := o2
  replace o3 : mset m₂ "kept" (.ref kl) "mask" = some (iv mask) := o3
  replace o4 : mset m₂ "kept" (.ref kl) "is_backward" = some (.bool back) := o4
  replace o5 : mset m₂ "kept" (.ref kl) "due" = some (.ref dl) := o5
  have o6 : mset m₂ "kept" (.ref kl) "kept" = some (.ref kl) := rfl
  generalize mset m₂ "kept" (.ref kl) = m₃ at *
  -- classes
  refine Ss.name (Ex.callD hG df_cls (Ar.cons (Ex.callT hG bi_dict (Ar.cons (Ex.binop (Ex.comp (cl := [("marks", L + 1 + 1)]) (CompOk.tups (rows := (List.range 5).map fun g : Nat => [iv (g : Int), iv (if (g : Int) ∈ mk then 3 else 1)]) (Ex.callT hG bi_range (Ar.cons (Ex.cint (Ar.nil (Ca.range1 fun r hr =>
    ⟨r, _, _, rfl, Src.range (hA₁ _).h fset_self (by decide) (by decide) (by decide) rfl, Ext.new hr, fun _ _ => trivial, by simp, by decide, ?_, ?_⟩)))))) (by rfl)))))))
  · rintro i u row f₅ C m₀ hu hrow e
    have hi : i < 5 := by
      have := (List.getElem?_eq_some_iff.mp hu).1
      rw [List.length_map, List.length_range] at this; exact this
    rw [List.getElem?_map, show (5 - 0 : Int).toNat = 5 from rfl, List.getElem?_range hi] at hu
    rw [List.getElem?_map, List.getElem?_range hi] at hrow
    obtain rfl : u = iv (i : Nat) := by rw [← Option.some.inj hu]; show iv (0 + (i : Int)) = _; rw [Int.zero_add]
    obtain rfl : row = [iv (i : Nat), iv (if (i : Int) ∈ mk then 3 else 1)] := (Option.some.inj hrow).symm
    have hx' := (hx.fresh hr (o := .range 0 5)).ext0 e
    refine Ex.tup (Ar.cons (Ex.name (v := iv (i : Nat)) rfl (Ar.cons (Ex.ite (Ts.cmp (Ex.name (v := iv (i : Nat)) rfl (Ex.cell rfl (hx'.get (a := L + 1 + 1) (o := .cell (some (.ref ml))) (by simp)) (Co.inInts (hA₁ _).line (.inl (hx'.get (a := ml) (o := .list (mk.map iv)) (by simp))) ⟨_, rfl, ?_⟩))))))))
    by_cases q : (i : Int) ∈ mk
    · rw [if_pos (by simp [q]), if_pos q]
      exact Ex.cint (Ar.nil ⟨by simp, fun T hT => ⟨T, rfl, hT, rfl⟩⟩)
    · rw [if_neg (by simp [q]), if_neg q]
      exact Ex.cint (Ar.nil ⟨by simp, fun T hT => ⟨T, rfl, hT, rfl⟩⟩)
  rintro acc f₅ e ⟨Ts, rfl, hTs, hat⟩ D₁ hD₁
  replace e := e.trans (Ext.new hD₁ (c := .list (Ts.map .ref)))
  replace hat : ∀ (j : Nat) (T : Addr) r, Ts[j]? = some T → ((List.range 5).map fun g : Nat => [iv (g : Int), iv (if (g : Int) ∈ mk then 3 else 1)])[j]? = some r → fset f₅ D₁ (.list (Ts.map .ref)) T = some (.tup r) := fun j T r h1 h2 => by
    have := hat j T r h1 h2
    rw [fset_ne (by rintro rfl; rw [hD₁] at this; cases this)]; exact this
  have hl1 : IsL (fset f₅ D₁ (.list (Ts.map .ref))) D₁ (Ts.map .ref) := .inl fset_self
  generalize fset f₅ D₁ (.list (Ts.map .ref)) = f₆ at *
  replace hx := hx.ext0 e
  replace hdue := hdue.ext0 e
  replace hkept := hkept.ext0 e
  clear e hD₁
  refine Ex.comp (CompOk.tups (rows := mk.map fun g => [iv g, iv 3]) (Ex.cell rfl (hx.get (a := L + 1 + 1) (o := .cell (some (.ref ml))) (by simp)) ⟨ml, mk.map iv, _, rfl, Src.list (hA₁ _).h (.inl (hx.get (a := ml) (o := .list (mk.map iv)) (by simp))), .refl, fun f₂ e => .inl (e _ _ (hx.get (a := ml) (o := .list (mk.map iv)) (by simp)) List.not_mem_nil), by simp, by rw [List.length_map]; omega, ?_, ?_⟩)) (closureFor_none (by decide))
  · rintro i u row f₅ C m₀ hu hrow e
    rw [List.getElem?_map] at hu hrow
    obtain ⟨g, hg, rfl⟩ := Option.map_eq_some_iff.mp hu
    rw [hg] at hrow; cases hrow
    exact Ex.tup (Ar.cons (Ex.name (v := iv g) rfl (Ar.cons (Ex.cint (Ar.nil ⟨by simp, fun T hT => ⟨T, rfl, hT, rfl⟩⟩)))))
  rintro acc f₇ e ⟨Us, rfl, hUs, hat'⟩ D₂ hD₂
  replace e := e.trans (Ext.new hD₂ (c := .list (Us.map .ref)))
  replace hat' : ∀ (j : Nat) (T : Addr) r, Us[j]? = some T → (mk.map fun g => [iv g, iv 3])[j]? = some r → fset f₇ D₂ (.list (Us.map .ref)) T = some (.tup r) := fun j T r h1 h2 => by
    have := hat' j T r h1 h2
    rw [fset_ne (by rintro rfl; rw [hD₂] at this; cases this)]; exact this
  have hl2 : IsL (fset f₇ D₂ (.list (Us.map .ref))) D₂ (Us.map .ref) := .inl fset_self
  generalize fset f₇ D₂ (.list (Us.map .ref)) = f₈ at *
  replace hx := hx.ext0 e
  replace hdue := hdue.ext0 e
  replace hkept := hkept.ext0 e
  replace hl1 := e.isL hl1 List.not_mem_nil
  replace hat : ∀ (j : Nat) (T : Addr) r, Ts[j]? = some T → ((List.range 5).map fun g : Nat => [iv (g : Int), iv (if (g : Int) ∈ mk then 3 else 1)])[j]? = some r → f₈ T = some (.tup r) := fun j T r h1 h2 => e _ _ (hat j T r h1 h2) List.not_mem_nil
  clear e hD₂
  rw [List.length_map] at hTs hUs
  rw [List.length_range] at hTs
  refine Bo.addL hl1 hl2 (by rw [List.length_map, List.length_map]; omega) fun D₃ hD₃ => Ar.nil ?_
  have hcs : (clsRows mk).length = 5 + mk.length := by unfold clsRows; simp
  refine Ca.dictL (Ts := Ts ++ Us) (rows := clsRows mk) (hA₁ _).h (by rw [fset_self, List.map_append]) (by rw [List.length_append, hTs, hUs, hcs]) (by omega) (fun j T r h1 h2 => ?_) fun cd hcd => Ar.nil (Ca.cls (k := 1) hG ((hA₁ _).mono (by decide)) cls_cls fun A₁ x d hA₂ hxn hdn hxd => ?_)
  · have hT : f₈ T = some (.tup [iv r.1, r.2]) := by
      unfold clsRows at h2
      by_cases q : j < 5
      · rw [List.getElem?_append_left (by omega)] at h1
        rw [List.getElem?_append_left (by simpa using q), List.getElem?_map, List.getElem?_range q] at h2
        refine hat j T _ h1 ?_
        rw [List.getElem?_map, List.getElem?_range q]
        rw [← Option.some.inj h2]; rfl
      · rw [List.getElem?_append_right (by omega), hTs] at h1
        rw [List.getElem?_append_right (by simp; omega), List.length_map, List.length_range, List.getElem?_map] at h2
        obtain ⟨g, hg, rfl⟩ := Option.map_eq_some_iff.mp h2
        refine hat' _ T _ h1 ?_
        rw [List.getElem?_map, hg]; rfl
    rw [fset_ne (by rintro rfl; rw [hD₃] at hT; cases hT)]; exact hT
  have hcv := cls_val mk
  generalize (clsRows mk).foldl (fun d r => stored d r.1 r.2) [] = kvs at *
  rw [fset_comm hxd.symm]
  refine cls_init_spec hG hA₂ hxd fset_self ⟨rfl, ?_⟩
  have e : Ext [] f₈ (fset (fset (fset (fset f₈ D₃ (.list (Ts.map .ref ++ Us.map .ref))) cd (.idict kvs)) x (.inst 185 d)) d (.dict [ent w.params "classes" (.ref cd)])) := ((Ext.new hD₃).trans (Ext.new hcd)).trans (Ext.inst hxn hdn hxd)
  have hcls : IsCls w (fset (fset (fset (fset f₈ D₃ (.list (Ts.map .ref ++ Us.map .ref))) cd (.idict kvs)) x (.inst 185 d)) d (.dict [ent w.params "classes" (.ref cd)])) x kvs :=
    ⟨d, cd, by rw [fset_ne hxd, fset_self], fset_self, by
      rw [fset_ne (by rintro rfl; rw [fset_self] at hdn; cases hdn), fset_ne (by rintro rfl; rw [fset_self] at hxn; cases hxn), fset_self]⟩
  generalize fset (fset (fset (fset f₈ D₃ (.list (Ts.map .ref ++ Us.map .ref))) cd (.idict kvs)) x (.inst 185 d)) d (.dict [ent w.params "classes" (.ref cd)]) = f₉ at *
  replace hx := hx.ext0 e
  replace hdue := hdue.ext0 e
  replace hkept := hkept.ext0 e
  clear e hat hat' hTs hUs hl1 hl2 hcd hD₃ hxn hdn hxd hA₂ hcs
  replace o1 : mset m₃ "classes" (.ref x) "infos" = some (.ref il) := o1
  replace o2 : mset m₃ "classes" (.ref x) "pairs" = some (.ref pd) := o2
  replace o3 : mset m₃ "classes" (.ref x) "mask" = some (iv mask) := o3
  replace o4 : mset m₃ "classes" (.ref x) "is_backward" = some (.bool back) := o4
  replace o5 : mset m₃ "classes" (.ref x) "due" = some (.ref dl) := o5
  replace o6 : mset m₃ "classes" (.ref x) "kept" = some (.ref kl) := o6
  have o7 : mset m₃ "classes" (.ref x) "classes" = some (.ref x) := rfl
  generalize mset m₃ "classes" (.ref x) = m₄ at *
  -- buffer
  refine Ss.name (Ex.callD hG df_buf (Ar.cons (Ex.callT hG bi_list (Ar.cons (Ex.name (v := .ref il) o1 (Ar.nil (Ca.listOf (.inl (hx.get (a := il) (o := .list (refs R)) (by simp))) (by rw [List.length_map]; omega) fun rl hrl => ?_)))))))
  have hdlrl := hdue.nel hrl
  have hklrl := hkept.nel hrl
  refine Ar.cons (Ex.name (v := .bool back) o4 (Ar.nil (Ca.cls (k := 1) hG ((hA₁ _).mono (by decide)) cls_buf fun A₁ b bd hA₂ hbn hbdn hbb => ?_)))
  rw [fset_comm hbb.symm]
  refine buf_init_spec hG hA₂ hbb fset_self ⟨rfl, ?_⟩
  have e : Ext [] f₉ (fset (fset (fset f₉ rl (.list (refs R))) b (.inst 98 bd)) bd (.dict [ent w.params "row" (.ref rl), ent w.params "is_backward" (.bool back), ent w.params "last_lig" (iv 0)])) := (Ext.new hrl).trans (Ext.inst hbn hbdn hbb)
  have hB : IsBuf w (fset (fset (fset f₉ rl (.list (refs R))) b (.inst 98 bd)) bd (.dict [ent w.params "row" (.ref rl), ent w.params "is_backward" (.bool back), ent w.params "last_lig" (iv 0)])) b bd rl back := ⟨by rw [fset_ne hbb, fset_self], fset_self⟩
  have hrll : fset (fset (fset f₉ rl (.list (refs R))) b (.inst 98 bd)) bd (.dict [ent w.params "row" (.ref rl), ent w.params "is_backward" (.bool back), ent w.params "last_lig" (iv 0)]) rl = some (.list (refs R)) := by
    rw [fset_ne (by rintro rfl; rw [fset_self] at hbdn; cases hbdn), fset_ne (by rintro rfl; rw [fset_self] at hbn; cases hbn), fset_self]
  replace hx := hx.ext0 e
  replace hdue := hdue.ext0 e
  replace hkept := hkept.ext0 e
  replace hcls := hcls.ext0 e
  generalize fset (fset (fset f₉ rl (.list (refs R))) b (.inst 98 bd)) bd (.dict [ent w.params "row" (.ref rl), ent w.params "is_backward" (.bool back), ent w.params "last_lig" (iv 0)]) = f₁₀ at *
  clear e hrl hbn hbdn hbb hA₂
  replace o2 : mset m₄ "buffer" (.ref b) "pairs" = some (.ref pd) := o2
  replace o3 : mset m₄ "buffer" (.ref b) "mask" = some (iv mask) := o3
  replace o4 : mset m₄ "buffer" (.ref b) "is_backward" = some (.bool back) := o4
  replace o5 : mset m₄ "buffer" (.ref b) "due" = some (.ref dl) := o5
  replace o6 : mset m₄ "buffer" (.ref b) "kept" = some (.ref kl) := o6
  replace o7 : mset m₄ "buffer" (.ref b) "classes" = some (.ref x) := o7
  have o8 : mset m₄ "buffer" (.ref b) "buffer" = some (.ref b) := rfl
  generalize mset m₄ "buffer" (.ref b) = m₅ at *
  clear o1
  -- before
  refine Ss.name (Ex.callT hG bi_dict (Ar.cons (Ex.name (v := .ref pd) o2 (Ar.nil (Ca.dictP hG (hx.get (a := pd) (o := .pdict xs) (by simp)) hx.keys (by omega) hxs.hash fun bf hbf => ?_)))))
  have e : Ext [] f₁₀ (fset f₁₀ bf (.pdict xs)) := Ext.new hbf
  have hbfx : fset f₁₀ bf (.pdict xs) bf = some (.pdict xs) := fset_self
  replace hx := hx.ext0 e
  replace hdue := hdue.ext0 e
  replace hkept := hkept.ext0 e
  replace hcls := hcls.ext0 e
  replace hB := hB.ext0 e
  replace hrll := e _ _ hrll List.not_mem_nil
  generalize fset f₁₀ bf (.pdict xs) = f₁₁ at *
  clear e hbf
  replace o2 : mset m₅ "before" (.ref bf) "pairs" = some (.ref pd) := o2
  replace o3 : mset m₅ "before" (.ref bf) "mask" = some (iv mask) := o3
  replace o4 : mset m₅ "before" (.ref bf) "is_backward" = some (.bool back) := o4
  replace o5 : mset m₅ "before" (.ref bf) "due" = some (.ref dl) := o5
  replace o6 : mset m₅ "before" (.ref bf) "kept" = some (.ref kl) := o6
  replace o7 : mset m₅ "before" (.ref bf) "classes" = some (.ref x) := o7
  replace o8 : mset m₅ "before" (.ref bf) "buffer" = some (.ref b) := o8
  have o9 : mset m₅ "before" (.ref bf) "before" = some (.ref bf) := rfl
  generalize mset m₅ "before" (.ref bf) = m₆ at *
  -- apply_kern
  refine Ss.expr (Ex.callD hG df_apply (Ar.cons (Ex.name (v := .ref b) o8 (Ar.cons (Ex.callD hG df_gdef (Ar.cons (Ex.name (v := .ref x) o7 (Ar.cons (Ex.callD hG df_cls (Ar.cons (Ex.dictI fun i1 hi1 => Ar.nil (Ca.cls (k := 1) hG ((hA₁ _).mono (by decide)) cls_cls fun A₁ y yd hA₂ hyn hydn hyy => ?_))))))))))))
  rw [fset_comm hyy.symm]
  refine cls_init_spec hG hA₂ hyy fset_self ⟨rfl, ?_⟩
  have e : Ext [] f₁₁ (fset (fset (fset f₁₁ i1 (.idict [])) y (.inst 185 yd)) yd (.dict [ent w.params "classes" (.ref i1)])) := (Ext.new hi1).trans (Ext.inst hyn hydn hyy)
  generalize fset (fset (fset f₁₁ i1 (.idict [])) y (.inst 185 yd)) yd (.dict [ent w.params "classes" (.ref i1)]) = f₁₂ at *
  clear hA₂ hyn hydn hyy hi1
  refine Ar.cons (Ex.list (Ar.nil ⟨by simp, fun s hs => Ar.nil (Ca.cls (k := 1) hG ((hA₁ _).mono (by decide)) cls_gdef fun A₁ g gd hA₂ hgn hgdn hgg => ?_)⟩))
  replace e := e.trans (Ext.new hs (c := .list []))
  generalize fset f₁₂ s (.list []) = f₁₃ at *
  rw [fset_comm hgg.symm]
  refine gdef_init_spec hG hA₂ hgg fset_self fun q1 q2 hq1 hq2 hqq => ⟨rfl, ?_⟩
  have hgq1 : g ≠ q1 := by rintro rfl; rw [fset_self] at hq1; cases hq1
  have hgq2 : g ≠ q2 := by rintro rfl; rw [fset_self] at hq2; cases hq2
  rw [fset_ne hgq1.symm] at hq1
  rw [fset_ne hgq2.symm] at hq2
  have e2 : Ext [] f₁₃ (fset (fset (fset (fset f₁₃ g (.inst 233 gd)) q1 (.idict [])) q2 (.idict [])) gd (.dict [ent w.params "classes" (.ref x), ent w.params "attach" (.ref y), ent w.params "sets" (.ref s), ent w.params "points" (.ref q1), ent w.params "carets" (.ref q2)])) :=
    (((Ext.new hgn).off hq1).off hq2).off hgdn
  have hC : IsGdef w (fset (fset (fset (fset f₁₃ g (.inst 233 gd)) q1 (.idict [])) q2 (.idict [])) gd (.dict [ent w.params "classes" (.ref x), ent w.params "attach" (.ref y), ent w.params "sets" (.ref s), ent w.params "points" (.ref q1), ent w.params "carets" (.ref q2)])) g kvs :=
    ⟨gd, x, y, s, q1, q2, by rw [fset_ne hgg, fset_ne hgq2, fset_ne hgq1, fset_self], fset_self, hcls.ext0 (e.trans e2)⟩
  replace e := e.trans e2
  generalize fset (fset (fset (fset f₁₃ g (.inst 233 gd)) q1 (.idict [])) q2 (.idict [])) gd (.dict [ent w.params "classes" (.ref x), ent w.params "attach" (.ref y), ent w.params "sets" (.ref s), ent w.params "points" (.ref q1), ent w.params "carets" (.ref q2)]) = f₁₄ at *
  replace hx := hx.ext0 e
  replace hdue := hdue.ext0 e
  replace hkept := hkept.ext0 e
  replace hB := hB.ext0 e
  replace hrll := e _ _ hrll List.not_mem_nil
  replace hbfx := e _ _ hbfx List.not_mem_nil
  clear e e2 hcls hs hA₂ hgn hgdn hgg hq1 hq2 hgq1 hgq2
  refine Ar.cons (Ex.name (v := .ref pd) o2 (Ar.cons (Ex.name (v := iv mask) o3 (Ar.nil (Ca.def (apply_kern_spec hG ((hA₁ _).mono (by decide)) hB hrll hx.row (by omega) hC hcv (hx.get (a := pd) (o := .pdict xs) (by simp)) hx.keys hxs.pv fun f' e hl' hr' => ⟨rfl, ?_⟩))))))
  have hIL : ∀ l, l ≠ rl → (∃ xs, IsL f₁₄ l xs) → l ∉ rl :: Ds R := fun l n ⟨xs, hL⟩ q => by
    rcases List.mem_cons.mp q with q | q
    · exact n q
    · rcases hL with hL | hL
      · exact hx.row.notDs hL (fun y e => by cases e) q
      · exact hx.row.notDs hL (fun y e => by cases e) q
  have hTP : ∀ T r, f₁₄ T = some (.tup r) → T ∉ rl :: Ds R := fun T r hT => hx.row.notRl hrll hT (fun y e => by cases e) (fun y e => by cases e)
  replace hdue := hdue.ext e (hIL dl hdlrl (by obtain ⟨Ts, q, _⟩ := hdue; exact ⟨_, q⟩)) hTP
  replace hkept := hkept.ext e (hIL kl hklrl (by obtain ⟨Ts, q, _⟩ := hkept; exact ⟨_, q⟩)) hTP
  replace hB := hB.ext e (hx.row.notRl hrll hB.1 (fun y e => by cases e) (fun y e => by cases e)) (hx.row.notRl hrll hB.2 (nd_len (by simp)) (fun y e => by cases e))
  have hpd : f' pd = some (.pdict xs) := e _ _ (hx.get (a := pd) (o := .pdict xs) (by simp)) (hx.row.notRl hrll (hx.get (a := pd) (o := .pdict xs) (by simp)) (fun y e => by cases e) (fun y e => by cases e))
  replace hbfx := e _ _ hbfx (hx.row.notRl hrll hbfx (fun y e => by cases e) (fun y e => by cases e))
  have hkeys := hx.keys.ext2 hx.row hrll e
  clear hIL hTP hx hrll hC hcv e
  have hK := kern_due back (clsOf mk) (pvOf xs) mask R
  have hKr : refs (kerned back (clsOf mk) (pvOf xs) mask R) = refs R := by rw [hK, upd_refs]
  have hKl : (kerned back (clsOf mk) (pvOf xs) mask R).length = R.length := by rw [hK, upd_len]
  have hKq : (kerned back (clsOf mk) (pvOf xs) mask R).map (fun r => quin r.2.2) = R.map fun r => quin r.2.2 := by
    rw [hK]
    apply List.ext_getElem?
    intro n
    rw [List.getElem?_map, List.getElem?_map, upd_get]
    cases hn : R[n]? with
    | none => rfl
    | some r =>
      have s := dueG_same R (pvOf xs) mask (prs (if back = true then (U R (clsOf mk) 0).reverse else U R (clsOf mk) 0)) n r.2.2
      simp only [Option.map_some]
      unfold quin
      rw [s.glyph, s.cluster, s.mask, s.ya, s.yo, s.parent, s.bond]
  rw [← hKr] at hl'
  clear hK hKr
  generalize kerned back (clsOf mk) (pvOf xs) mask R = K at *
  have hA₂ := fun env => Nat.lt_of_le_of_lt (Nat.add_le_add_left (show 8 ≤ 64 by decide) _) (hA₁ env).line
  -- the comparisons
  refine Ss.cond (Mine.Ts.or1 (Mine.Ts.cmp (Ex.comp (cl := []) (CompOk.rows (row := tri) (hA₁ _).h (.inl hl') (by omega) (fun Q q => Ex.brow hG (Ex.name (v := .ref b) o8 ⟨b, bd, rl, back, rfl, hB, q⟩)) (fun i r f₂ C m₀ hr e => Ex.rowX hG rfl ((hr'.ext e fun _ _ => ⟨List.not_mem_nil, List.not_mem_nil⟩).get hr) fun T hT => ⟨T, rfl, hT, rfl⟩) fun acc f₃ e hrow l₁ hl₁ => ?_) (closureFor_none (by decide)))))
  obtain ⟨e', hrows⟩ := hrow l₁ hl₁
  replace hdue := hdue.ext0 e'
  replace hkept := hkept.ext0 e'
  replace hB := hB.ext0 e'
  replace hr' := hr'.ext e' fun _ _ => ⟨List.not_mem_nil, List.not_mem_nil⟩
  replace hl' := e' _ _ hl' List.not_mem_nil
  replace hpd := e' _ _ hpd List.not_mem_nil
  replace hbfx := e' _ _ hbfx List.not_mem_nil
  replace hkeys : KeysAt _ xs := fun x hx => e' _ _ (hkeys x hx) List.not_mem_nil
  generalize fset f₃ l₁ (.list acc) = f₄ at *
  clear hrow hl₁ e e'
  refine Ex.name (v := .ref dl) o5 (Co.neRows (hA₁ _).line hrows hdue (fun r hr => by obtain ⟨y, _, rfl⟩ := List.mem_map.mp hr; rfl) ⟨false, rfl, ?_⟩)
  rw [if_neg Bool.false_ne_true]
  refine TrB.or1 (Mine.Ts.cmp (Ex.name (v := .ref pd) o2 (Ex.name (v := .ref bf) o9 (Co.neP hG (hA₂ _) hpd hbfx hkeys hxs.vals ⟨false, rfl, ?_⟩))))
  rw [if_neg Bool.false_ne_true]
  refine TrB.or0 ?_
  rw [if_neg Bool.false_ne_true]
  refine Ss.nilA ?_
  refine Ss.cons (St1.comp (CompOk.rows (row := quin) (hA₁ _).h (.inl hl') (by omega) (fun Q q => Ex.brow hG (Ex.name (v := .ref b) o8 ⟨b, bd, rl, back, rfl, hB, q⟩)) (fun i r f₂ C m₀ hr e => Ex.rowY hG rfl ((hr'.ext e fun _ _ => ⟨List.not_mem_nil, List.not_mem_nil⟩).get hr) fun T hT => ⟨T, rfl, hT, rfl⟩) fun acc f₃ e hrow l₂ hl₂ => andNext ?_) (closureFor_none (by decide)))
  obtain ⟨e', hrows⟩ := hrow l₂ hl₂
  replace hkept := hkept.ext0 e'
  replace hB := hB.ext0 e'
  rw [hKq] at hrows
  generalize fset f₃ l₂ (.list acc) = f₅ at *
  clear hrow hl₂ e e'
  refine Ss.ret (Ex.and2 (Ex.cmp (Ex.name (v := .ref l₂) rfl (Ex.name (v := .ref kl) o6 (Co.eqRows (hA₁ _).line hrows hkept (fun r hr => by obtain ⟨y, hy, rfl⟩ := List.mem_map.mp hr; simp only [quin, List.all_cons, List.all_nil, atOk, hbo y hy, Bool.and_self]) (Tt.bool ?_))))))
  rw [if_pos rfl]
  refine Ex.bool1 (Ex.cmp (Ex.bback hG (Ex.name (v := .ref b) o8 ⟨b, bd, rl, back, rfl, hB, Ex.name (v := .bool back) o4 (Co.eqb ?_)⟩)))
  rw [beq_self_eq_true]
  exact h _

end Mine

namespace Mine
-- J
set_option maxRecDepth 100000
set_option maxHeartbeats 4000000
theorem fillitJ : (PySem.Challenge.rw_nu0162_01 = PySem.Challenge.rw_nu0162_01) ∧ (∀ P, KK P = KK P) := by
  k_fill
  exact ⟨rfl, fun _ => rfl⟩
theorem ints_er : ∀ {vs : List Value} {ns : List Int}, IntsAre vs ns → vs.map er = ns.map iv
  | _, _, .nil => rfl
  | _, _, .cons n t h => by rw [List.map_cons, List.map_cons, ints_er h]; rfl
theorem law_call {w : World} {s₁ : Shared} {p : Program} {loose : List PySem.Str} {mg mb : PySem.Str → Option Value} {sc : Addr} {vs : List Value} {is : List Int} (X : (KK w.params).In s₁.heap) (T : TopRead p loose mg mb s₁.heap) (S : ∃ o, s₁.heap.get? sysModules = some o)
    (hl : s₁.heap.IsList sc vs.toArray) (hi : vs.map er = is.map iv) (hz : is.length ≤ 63) :
    codeAny (model PySem.Challenge.rw_nu0162_01.row.prog w) callerA (.call (.ref 273) ⟨[.ref sc], []⟩) (fun r s' => r = .ok (.ret (.bool true)) ∧ Sm s₁ s' ∧ ∀ b o, s₁.heap.get? b = some o → s'.heap.get? b = some o) s₁ := by
  have hG : (GG w s₁.heap).Ok := ⟨X, ⟨p, loose, mg, mb, T⟩, S⟩
  have hA : Rm 8 callerA := ⟨rfl, by decide, by decide⟩
  refine codeAny_mono (law_spec (f := fun _ => none) (P := fun v _ => v = .bool true) hG hA ⟨vs, hl, hi⟩ hz (fun _ => rfl) [.ref sc] rfl s₁ ⟨fun a c e => (nomatch e), fun a o e => e, fun _ _ _ => rfl⟩) fun r s' ⟨sm, v, f', e, R, k, p⟩ => ?_
  cases er_bool p
  exact ⟨e, sm, R.base⟩
theorem holds : PySem.Challenge.rw_nu0162_01.Holds := holds_law said fun _ => by
  refine holds_open (r := PySem.Challenge.rw_nu0162_01.row) (q := qv) (loose := []) (Xt := fun s => xlAt qv [] s && recOk [] s) (XP := XL qv []) (Yf := hk.obs) (Ya := hk.val) (YP := hk.says) (N := 3768) left hk.of hk.keeps (fun s e => xl_of s (Bool.and_eq_true_iff.mp e).1) XL.keeps (by rfl) (by rfl) (by rfl) (fun s e => recFacts_of (Bool.and_eq_true_iff.mp e).2) (by rfl) (by first | assumption | decide +kernel) (by decide +kernel) ⟨rfl, rfl, rfl, rfl, rfl, by decide +kernel⟩ ?hw ?hc
  case hw => w_witness2
  case hc =>
    intro w s₀ s₁ mg mb G Y fa o pm cd doc dV kV ho hd hcd hD hmg hg args vals as hpre hlay hrd hwl hlo
    have KX := kIn_of Y
    refine Ground.open G ?_
    intro T B D TE TW
    wrow_args hpre hlay hrd hwl hlo
    have e := mg_of (n := "law") (v := .ref 273) KX T.g (by k_is)
    have e' : fa = 273 := by
      have := hmg.symm.trans e
      cases this; rfl
    subst e'
    clear hd hD hcd ho hmg
    refine enter_call ?_
    rename_i hI _ _ _
    rename s₁.heap.IsList _ _ => hL
    refine codeAny_mono (law_call KX (topRead_of T) ⟨_, KX 1 _ rfl⟩ hL (ints_er hI) (by omega)) fun r s' ⟨er, sm, k⟩ => ?_
    subst er
    refine ⟨.inl ⟨.bool true, .bool true, [], rfl, raisesW_false ?_, .bool true, ?_, unshared_nil⟩, OldK.of_keep k, sm.2.2, .of_eq (sm.1.trans hg)⟩
    · wrow_none_raised
    · wrow_post

end Mine

theorem PySem.Challenge.cw_nu0162_01_holds : PySem.Challenge.rw_nu0162_01.Holds := by
  exact Mine.holds
