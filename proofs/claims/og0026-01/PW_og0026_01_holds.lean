import PyProof.Rows.All
import Wide.All
import OpenK.AllK
import Wide.FinOn
import KE.RegLcTurns
import KE.KLcPair
import PySem.Challenge.RW_og0026_01
namespace Mine
section
set_option Elab.async false
set_option maxRecDepth 100000
set_option maxHeartbeats 0
set_option rowWalk.seconds 0
set_option linter.unusedVariables false
set_option linter.unusedSimpArgs false
section
open PySem PySem.W PyProof.Rows PySem.Calls PySem.Spec
/-- a def of the text, by its place: [i] at the top, [i, j] in the i-th statement's class -/
noncomputable def pickIn (l : List Stmt) (i : Nat) : Option Stmt := l[i]?
noncomputable def pickOf : Option Stmt → Option (Str × Arguments × List Stmt × Scope)
  | some (.FunctionDef n a b _ _ _ sc _ _ _) => some (n, a, b, sc)
  | _ => none
noncomputable def pickCls : Option Stmt → List Stmt
  | some (.ClassDef _ _ _ b ..) => b
  | _ => []
noncomputable def pickFn : List Nat → Option (Str × Arguments × List Stmt × Scope)
  | [i] => pickOf (pickIn PySem.Challenge.pw_og0026_01.main.body i)
  | [i, j] => pickOf (pickIn (pickCls (pickIn PySem.Challenge.pw_og0026_01.main.body i)) j)
  | _ => none
/-- the function object of such a def -/
@[reducible] noncomputable def mkFn {path : List Nat} {nm : Str} {ps : Arguments} {bd : List Stmt} {sc : Scope} (_h : pickFn path = some (nm, ps, bd, sc)) (qual : Str) (dflt pm code : Value) : Obj :=
  ⟨.type "function", none, .func ⟨nm, qual, ps, .stmts bd, sc, 3, [], dflt, .none, .none, pm, none, code, .none, 0⟩, #[]⟩
@[reducible] noncomputable def dE (P : Params) (x : Str) (t : Tok) (v : Value) : DictEntry := ⟨PyData.keyHash P x, .str x t, v⟩
/-- the objects of the text that the walk knows -/
noncomputable def KF (P : Params) : Frag :=
    (nat_lit 2, ⟨.none, none, .dict #[dE P "type.__subclasses__.Exception.0" 216 (.int 32 0), dE P "type.__subclasses__.Exception.n" 217 (.int 1 0)] 2, #[]⟩) ::
    (nat_lit 3, ⟨.type "dict", none, .dict #[dE P "__name__" 165 (.str "law_og0026_01" 1254), dE P "__doc__" 166 (.none), dE P "__package__" 167 (.none), dE P "__loader__" 168 (.builtin "__main__.__loader__#opaque"), dE P "__spec__" 169 (.none), dE P "__annotations__" 170 (.ref 6), dE P "__builtins__" 171 (.ref 4), dE P "__file__" 173 (.str "/claim/cut.py" 172), dE P "__cached__" 174 (.none), dE P "LazyError" 219 (.ref 32), dE P "ReadError" 235 (.ref 45), dE P "row_of" 244 (.ref 54), dE P "rows_of" 250 (.ref 59), dE P "Node" 286 (.ref 83), dE P "FunBind" 322 (.ref 112), dE P "Clause" 357 (.ref 139), dE P "PatBind" 393 (.ref 166), dE P "Rhs" 427 (.ref 191), dE P "Binds" 463 (.ref 218), dE P "no_binds" 469 (.ref 227), dE P "Var" 503 (.ref 252), dE P "Con" 537 (.ref 279), dE P "Lit" 572 (.ref 306), dE P "App" 607 (.ref 333), dE P "Op" 642 (.ref 360), dE P "Infix" 675 (.ref 387), dE P "Tuple" 708 (.ref 414), dE P "ListOf" 741 (.ref 441), dE P "Paren" 774 (.ref 468), dE P "PVar" 809 (.ref 495), dE P "PWild" 840 (.ref 522), dE P "PLit" 875 (.ref 549), dE P "PCon" 910 (.ref 576), dE P "PTuple" 943 (.ref 603), dE P "PList" 976 (.ref 630), dE P "PAs" 1011 (.ref 657), dE P "PLazy" 1044 (.ref 684), dE P "PBang" 1077 (.ref 711), dE P "PInfix" 1110 (.ref 738), dE P "PParen" 1143 (.ref 765), dE P "is_plain_name" 1152 (.ref 774), dE P "pattern_of" 1158 (.ref 779), dE P "applied_pattern" 1164 (.ref 784), dE P "infix_pattern" 1176 (.ref 791), dE P "con_operator" 1183 (.ref 798), dE P "is_qualified" 1192 (.ref 805), dE P "own_name" 1200 (.ref 812), dE P "spine" 1208 (.ref 819), dE P "var_operators" 1218 (.ref 826), dE P "part_of" 1226 (.ref 833), dE P "operator_head" 1237 (.ref 840), dE P "function_head" 1243 (.ref 845), dE P "bound" 1253 (.ref 852), dE P "_law_pool" 1266 (.ref 859), dE P "_law_take" 1275 (.ref 866), dE P "_law_one" 1283 (.ref 873), dE P "_law_atom" 1292 (.ref 880), dE P "_law_side" 1304 (.ref 887), dE P "_law_operator" 1318 (.ref 894), dE P "_law_named" 1331 (.ref 901), dE P "_law_left" 1344 (.ref 908), dE P "_law_heard" 1352 (.ref 915), dE P "law" 1358 (.ref 920)] 63, #[]⟩) ::
    (nat_lit 22, ⟨.type "tuple", none, .seq #[.none] 0, #[]⟩) ::
    (nat_lit 28, ⟨.type "code", none, .fields #[.str "__init__" 201, .str "LazyError.__init__" 202, .str "/claim/cut.py" 203, .int 4 0, .int 3 0, .int 0 0, .int 0 0, .int 3 0, .ref 23, .bool true, .int 181 0, .ref 24, .none, .ref 25, .ref 26, .ref 27, .int 207 0, .int 4 0, .str "/claim/cut.py" 208], #[]⟩) ::
    (nat_lit 29, mkFn (path := [1, 0]) rfl "LazyError.__init__" (.ref 22) (.str "lazycore.errors" 187) (.ref 28)) ::
    (nat_lit 31, ⟨.type "dict", none, .dict #[dE P "__module__" 196 (.str "lazycore.errors" 187), dE P "__firstlineno__" 200 (.int 2 199), dE P "__init__" 209 (.ref 29), dE P "__static_attributes__" 212 (.ref 30), dE P "__weakref__" 214 (.ref 33), dE P "__doc__" 215 (.none)] 3, #[]⟩) ::
    (nat_lit 32, ⟨.type "type", none, .cls ⟨"LazyError", [.type "Exception"], [.ref 32, .type "Exception", .type "BaseException", .type "object"], 31, "LazyError", true, [], [.ref 45], false, none, false⟩, #[some (.ref 15), none, some (.str "LazyError" 189), some (.str "LazyError" 197), some (.builtin "Exception.__new__"), some (.bool true)]⟩) ::
    (nat_lit 44, ⟨.type "dict", none, .dict #[dE P "__module__" 227 (.str "lazycore.errors" 187), dE P "__firstlineno__" 231 (.int 8 230), dE P "__static_attributes__" 232 (.ref 43), dE P "__doc__" 233 (.none)] 2, #[]⟩) ::
    (nat_lit 45, ⟨.type "type", none, .cls ⟨"ReadError", [.ref 32], [.ref 45, .ref 32, .type "Exception", .type "BaseException", .type "object"], 44, "ReadError", true, [], [], false, none, false⟩, #[some (.ref 36), none, some (.str "ReadError" 220), some (.str "ReadError" 228), some (.builtin "Exception.__new__"), some (.bool true)]⟩) ::
    (nat_lit 53, ⟨.type "code", none, .fields #[.str "row_of" 238, .str "row_of" 239, .str "/claim/cut.py" 240, .int 11 0, .int 1 0, .int 0 0, .int 0 0, .int 3 0, .ref 48, .bool true, .int 181 0, .ref 49, .none, .ref 50, .ref 51, .ref 52, .int 242 0, .int 11 0, .str "/claim/cut.py" 243], #[]⟩) ::
    (nat_lit 54, mkFn (path := [4]) rfl "row_of" (.none) (.str "lazycore.nodes" 236) (.ref 53)) ::
    (nat_lit 58, ⟨.type "code", none, .fields #[.str "rows_of" 245, .str "rows_of" 246, .str "/claim/cut.py" 247, .int 13 0, .int 1 0, .int 0 0, .int 0 0, .int 3 0, .ref 55, .bool true, .int 181 0, .ref 56, .none, .none, .none, .ref 57, .int 248 0, .int 13 0, .str "/claim/cut.py" 249], #[]⟩) ::
    (nat_lit 59, mkFn (path := [5]) rfl "rows_of" (.none) (.str "lazycore.nodes" 236) (.ref 58)) ::
    (nat_lit 72, ⟨.type "code", none, .fields #[.str "__init__" 263, .str "Node.__init__" 264, .str "/claim/cut.py" 265, .int 17 0, .int 2 0, .int 0 0, .int 0 0, .int 3 0, .ref 67, .bool true, .int 181 0, .ref 68, .none, .ref 69, .ref 70, .ref 71, .int 268 0, .int 17 0, .str "/claim/cut.py" 269], #[]⟩) ::
    (nat_lit 73, mkFn (path := [6, 0]) rfl "Node.__init__" (.none) (.str "lazycore.nodes" 236) (.ref 72)) ::
    (nat_lit 79, ⟨.type "code", none, .fields #[.str "row" 271, .str "Node.row" 272, .str "/claim/cut.py" 273, .int 20 0, .int 1 0, .int 0 0, .int 0 0, .int 3 0, .ref 74, .bool true, .int 181 0, .ref 75, .none, .ref 76, .ref 77, .ref 78, .int 275 0, .int 20 0, .str "/claim/cut.py" 276], #[]⟩) ::
    (nat_lit 80, mkFn (path := [6, 1]) rfl "Node.row" (.none) (.str "lazycore.nodes" 236) (.ref 79)) ::
    (nat_lit 82, ⟨.type "dict", none, .dict #[dE P "__module__" 258 (.str "lazycore.nodes" 236), dE P "__firstlineno__" 262 (.int 15 261), dE P "__init__" 270 (.ref 73), dE P "row" 277 (.ref 80), dE P "__static_attributes__" 279 (.ref 81), dE P "__dict__" 281 (.ref 84), dE P "__weakref__" 283 (.ref 85), dE P "__doc__" 284 (.none)] 4, #[]⟩) ::
    (nat_lit 83, ⟨.type "type", none, .cls ⟨"Node", [.type "object"], [.ref 83, .type "object"], 82, "Node", true, [], [.ref 112, .ref 139, .ref 166, .ref 191, .ref 218, .ref 252, .ref 279, .ref 306, .ref 333, .ref 360, .ref 387, .ref 414, .ref 441, .ref 468, .ref 495, .ref 522, .ref 549, .ref 576, .ref 603, .ref 630, .ref 657, .ref 684, .ref 711, .ref 738, .ref 765], false, none, false⟩, #[none, none, some (.str "Node" 251), some (.str "Node" 259), some (.builtin "object.__new__"), some (.bool true)]⟩) ::
    (nat_lit 95, ⟨.type "tuple", none, .seq #[.none] 0, #[]⟩) ::
    (nat_lit 101, ⟨.type "code", none, .fields #[.str "__init__" 299, .str "FunBind.__init__" 300, .str "/claim/cut.py" 301, .int 24 0, .int 4 0, .int 0 0, .int 0 0, .int 3 0, .ref 96, .bool true, .int 181 0, .ref 97, .none, .ref 98, .ref 99, .ref 100, .int 306 0, .int 24 0, .str "/claim/cut.py" 307], #[]⟩) ::
    (nat_lit 102, mkFn (path := [7, 0]) rfl "FunBind.__init__" (.ref 95) (.str "lazycore.nodes" 236) (.ref 101)) ::
    (nat_lit 108, ⟨.type "code", none, .fields #[.str "row" 309, .str "FunBind.row" 310, .str "/claim/cut.py" 311, .int 30 0, .int 1 0, .int 0 0, .int 0 0, .int 3 0, .ref 103, .bool true, .int 181 0, .ref 104, .none, .ref 105, .ref 106, .ref 107, .int 313 0, .int 30 0, .str "/claim/cut.py" 314], #[]⟩) ::
    (nat_lit 109, mkFn (path := [7, 1]) rfl "FunBind.row" (.none) (.str "lazycore.nodes" 236) (.ref 108)) ::
    (nat_lit 111, ⟨.type "dict", none, .dict #[dE P "__module__" 294 (.str "lazycore.nodes" 236), dE P "__firstlineno__" 298 (.int 22 297), dE P "__init__" 308 (.ref 102), dE P "row" 315 (.ref 109), dE P "__static_attributes__" 319 (.ref 110), dE P "__doc__" 320 (.none)] 2, #[]⟩) ::
    (nat_lit 112, ⟨.type "type", none, .cls ⟨"FunBind", [.ref 83], [.ref 112, .ref 83, .type "object"], 111, "FunBind", true, [], [], false, none, false⟩, #[some (.ref 88), none, some (.str "FunBind" 287), some (.str "FunBind" 295), some (.builtin "object.__new__"), some (.bool true)]⟩) ::
    (nat_lit 122, ⟨.type "tuple", none, .seq #[.none] 0, #[]⟩) ::
    (nat_lit 128, ⟨.type "code", none, .fields #[.str "__init__" 335, .str "Clause.__init__" 336, .str "/claim/cut.py" 337, .int 34 0, .int 4 0, .int 0 0, .int 0 0, .int 3 0, .ref 123, .bool true, .int 181 0, .ref 124, .none, .ref 125, .ref 126, .ref 127, .int 342 0, .int 34 0, .str "/claim/cut.py" 343], #[]⟩) ::
    (nat_lit 129, mkFn (path := [8, 0]) rfl "Clause.__init__" (.ref 122) (.str "lazycore.nodes" 236) (.ref 128)) ::
    (nat_lit 135, ⟨.type "code", none, .fields #[.str "row" 345, .str "Clause.row" 346, .str "/claim/cut.py" 347, .int 39 0, .int 1 0, .int 0 0, .int 0 0, .int 3 0, .ref 130, .bool true, .int 181 0, .ref 131, .none, .ref 132, .ref 133, .ref 134, .int 349 0, .int 39 0, .str "/claim/cut.py" 350], #[]⟩) ::
    (nat_lit 136, mkFn (path := [8, 1]) rfl "Clause.row" (.none) (.str "lazycore.nodes" 236) (.ref 135)) ::
    (nat_lit 138, ⟨.type "dict", none, .dict #[dE P "__module__" 330 (.str "lazycore.nodes" 236), dE P "__firstlineno__" 334 (.int 32 333), dE P "__init__" 344 (.ref 129), dE P "row" 351 (.ref 136), dE P "__static_attributes__" 354 (.ref 137), dE P "__doc__" 355 (.none)] 2, #[]⟩) ::
    (nat_lit 139, ⟨.type "type", none, .cls ⟨"Clause", [.ref 83], [.ref 139, .ref 83, .type "object"], 138, "Clause", true, [], [], false, none, false⟩, #[some (.ref 115), none, some (.str "Clause" 323), some (.str "Clause" 331), some (.builtin "object.__new__"), some (.bool true)]⟩) ::
    (nat_lit 149, ⟨.type "tuple", none, .seq #[.none] 0, #[]⟩) ::
    (nat_lit 155, ⟨.type "code", none, .fields #[.str "__init__" 370, .str "PatBind.__init__" 371, .str "/claim/cut.py" 372, .int 43 0, .int 4 0, .int 0 0, .int 0 0, .int 3 0, .ref 150, .bool true, .int 181 0, .ref 151, .none, .ref 152, .ref 153, .ref 154, .int 377 0, .int 43 0, .str "/claim/cut.py" 378], #[]⟩) ::
    (nat_lit 156, mkFn (path := [9, 0]) rfl "PatBind.__init__" (.ref 149) (.str "lazycore.nodes" 236) (.ref 155)) ::
    (nat_lit 162, ⟨.type "code", none, .fields #[.str "row" 380, .str "PatBind.row" 381, .str "/claim/cut.py" 382, .int 49 0, .int 1 0, .int 0 0, .int 0 0, .int 3 0, .ref 157, .bool true, .int 181 0, .ref 158, .none, .ref 159, .ref 160, .ref 161, .int 384 0, .int 49 0, .str "/claim/cut.py" 385], #[]⟩) ::
    (nat_lit 163, mkFn (path := [9, 1]) rfl "PatBind.row" (.none) (.str "lazycore.nodes" 236) (.ref 162)) ::
    (nat_lit 165, ⟨.type "dict", none, .dict #[dE P "__module__" 365 (.str "lazycore.nodes" 236), dE P "__firstlineno__" 369 (.int 41 368), dE P "__init__" 379 (.ref 156), dE P "row" 386 (.ref 163), dE P "__static_attributes__" 390 (.ref 164), dE P "__doc__" 391 (.none)] 2, #[]⟩) ::
    (nat_lit 166, ⟨.type "type", none, .cls ⟨"PatBind", [.ref 83], [.ref 166, .ref 83, .type "object"], 165, "PatBind", true, [], [], false, none, false⟩, #[some (.ref 142), none, some (.str "PatBind" 358), some (.str "PatBind" 366), some (.builtin "object.__new__"), some (.bool true)]⟩) ::
    (nat_lit 176, ⟨.type "tuple", none, .seq #[.none] 0, #[]⟩) ::
    (nat_lit 182, ⟨.type "code", none, .fields #[.str "__init__" 406, .str "Rhs.__init__" 407, .str "/claim/cut.py" 408, .int 53 0, .int 4 0, .int 0 0, .int 0 0, .int 3 0, .ref 177, .bool true, .int 181 0, .ref 178, .none, .ref 179, .ref 180, .ref 181, .int 413 0, .int 53 0, .str "/claim/cut.py" 414], #[]⟩) ::
    (nat_lit 183, mkFn (path := [10, 0]) rfl "Rhs.__init__" (.ref 176) (.str "lazycore.nodes" 236) (.ref 182)) ::
    (nat_lit 187, ⟨.type "code", none, .fields #[.str "row" 416, .str "Rhs.row" 417, .str "/claim/cut.py" 418, .int 58 0, .int 1 0, .int 0 0, .int 0 0, .int 3 0, .ref 184, .bool true, .int 181 0, .ref 185, .none, .none, .none, .ref 186, .int 419 0, .int 58 0, .str "/claim/cut.py" 420], #[]⟩) ::
    (nat_lit 188, mkFn (path := [10, 1]) rfl "Rhs.row" (.none) (.str "lazycore.nodes" 236) (.ref 187)) ::
    (nat_lit 190, ⟨.type "dict", none, .dict #[dE P "__module__" 401 (.str "lazycore.nodes" 236), dE P "__firstlineno__" 405 (.int 51 404), dE P "__init__" 415 (.ref 183), dE P "row" 421 (.ref 188), dE P "__static_attributes__" 424 (.ref 189), dE P "__doc__" 425 (.none)] 2, #[]⟩) ::
    (nat_lit 191, ⟨.type "type", none, .cls ⟨"Rhs", [.ref 83], [.ref 191, .ref 83, .type "object"], 190, "Rhs", true, [], [], false, none, false⟩, #[some (.ref 169), none, some (.str "Rhs" 394), some (.str "Rhs" 402), some (.builtin "object.__new__"), some (.bool true)]⟩) ::
    (nat_lit 201, ⟨.type "tuple", none, .seq #[.none] 0, #[]⟩) ::
    (nat_lit 207, ⟨.type "code", none, .fields #[.str "__init__" 440, .str "Binds.__init__" 441, .str "/claim/cut.py" 442, .int 63 0, .int 4 0, .int 0 0, .int 0 0, .int 3 0, .ref 202, .bool true, .int 181 0, .ref 203, .none, .ref 204, .ref 205, .ref 206, .int 447 0, .int 63 0, .str "/claim/cut.py" 448], #[]⟩) ::
    (nat_lit 208, mkFn (path := [11, 0]) rfl "Binds.__init__" (.ref 201) (.str "lazycore.nodes" 236) (.ref 207)) ::
    (nat_lit 214, ⟨.type "code", none, .fields #[.str "row" 450, .str "Binds.row" 451, .str "/claim/cut.py" 452, .int 69 0, .int 1 0, .int 0 0, .int 0 0, .int 3 0, .ref 209, .bool true, .int 181 0, .ref 210, .none, .ref 211, .ref 212, .ref 213, .int 454 0, .int 69 0, .str "/claim/cut.py" 455], #[]⟩) ::
    (nat_lit 215, mkFn (path := [11, 1]) rfl "Binds.row" (.none) (.str "lazycore.nodes" 236) (.ref 214)) ::
    (nat_lit 217, ⟨.type "dict", none, .dict #[dE P "__module__" 435 (.str "lazycore.nodes" 236), dE P "__firstlineno__" 439 (.int 61 438), dE P "__init__" 449 (.ref 208), dE P "row" 456 (.ref 215), dE P "__static_attributes__" 460 (.ref 216), dE P "__doc__" 461 (.none)] 2, #[]⟩) ::
    (nat_lit 218, ⟨.type "type", none, .cls ⟨"Binds", [.ref 83], [.ref 218, .ref 83, .type "object"], 217, "Binds", true, [], [], false, none, false⟩, #[some (.ref 194), none, some (.str "Binds" 428), some (.str "Binds" 436), some (.builtin "object.__new__"), some (.bool true)]⟩) ::
    (nat_lit 226, ⟨.type "code", none, .fields #[.str "no_binds" 464, .str "no_binds" 465, .str "/claim/cut.py" 466, .int 71 0, .int 0 0, .int 0 0, .int 0 0, .int 3 0, .ref 221, .bool true, .int 181 0, .ref 222, .none, .ref 223, .ref 224, .ref 225, .int 467 0, .int 71 0, .str "/claim/cut.py" 468], #[]⟩) ::
    (nat_lit 227, mkFn (path := [12]) rfl "no_binds" (.none) (.str "lazycore.nodes" 236) (.ref 226)) ::
    (nat_lit 235, ⟨.type "tuple", none, .seq #[.none] 0, #[]⟩) ::
    (nat_lit 241, ⟨.type "code", none, .fields #[.str "__init__" 482, .str "Var.__init__" 483, .str "/claim/cut.py" 484, .int 75 0, .int 3 0, .int 0 0, .int 0 0, .int 3 0, .ref 236, .bool true, .int 181 0, .ref 237, .none, .ref 238, .ref 239, .ref 240, .int 488 0, .int 75 0, .str "/claim/cut.py" 489], #[]⟩) ::
    (nat_lit 242, mkFn (path := [13, 0]) rfl "Var.__init__" (.ref 235) (.str "lazycore.nodes" 236) (.ref 241)) ::
    (nat_lit 248, ⟨.type "code", none, .fields #[.str "row" 491, .str "Var.row" 492, .str "/claim/cut.py" 493, .int 80 0, .int 1 0, .int 0 0, .int 0 0, .int 3 0, .ref 243, .bool true, .int 181 0, .ref 244, .none, .ref 245, .ref 246, .ref 247, .int 495 0, .int 80 0, .str "/claim/cut.py" 496], #[]⟩) ::
    (nat_lit 249, mkFn (path := [13, 1]) rfl "Var.row" (.none) (.str "lazycore.nodes" 236) (.ref 248)) ::
    (nat_lit 251, ⟨.type "dict", none, .dict #[dE P "__module__" 477 (.str "lazycore.nodes" 236), dE P "__firstlineno__" 481 (.int 73 480), dE P "__init__" 490 (.ref 242), dE P "row" 497 (.ref 249), dE P "__static_attributes__" 500 (.ref 250), dE P "__doc__" 501 (.none)] 2, #[]⟩) ::
    (nat_lit 252, ⟨.type "type", none, .cls ⟨"Var", [.ref 83], [.ref 252, .ref 83, .type "object"], 251, "Var", true, [], [], false, none, false⟩, #[some (.ref 228), none, some (.str "Var" 470), some (.str "Var" 478), some (.builtin "object.__new__"), some (.bool true)]⟩) ::
    (nat_lit 262, ⟨.type "tuple", none, .seq #[.none] 0, #[]⟩) ::
    (nat_lit 268, ⟨.type "code", none, .fields #[.str "__init__" 516, .str "Con.__init__" 517, .str "/claim/cut.py" 518, .int 84 0, .int 3 0, .int 0 0, .int 0 0, .int 3 0, .ref 263, .bool true, .int 181 0, .ref 264, .none, .ref 265, .ref 266, .ref 267, .int 522 0, .int 84 0, .str "/claim/cut.py" 523], #[]⟩) ::
    (nat_lit 269, mkFn (path := [14, 0]) rfl "Con.__init__" (.ref 262) (.str "lazycore.nodes" 236) (.ref 268)) ::
    (nat_lit 275, ⟨.type "code", none, .fields #[.str "row" 525, .str "Con.row" 526, .str "/claim/cut.py" 527, .int 89 0, .int 1 0, .int 0 0, .int 0 0, .int 3 0, .ref 270, .bool true, .int 181 0, .ref 271, .none, .ref 272, .ref 273, .ref 274, .int 529 0, .int 89 0, .str "/claim/cut.py" 530], #[]⟩) ::
    (nat_lit 276, mkFn (path := [14, 1]) rfl "Con.row" (.none) (.str "lazycore.nodes" 236) (.ref 275)) ::
    (nat_lit 278, ⟨.type "dict", none, .dict #[dE P "__module__" 511 (.str "lazycore.nodes" 236), dE P "__firstlineno__" 515 (.int 82 514), dE P "__init__" 524 (.ref 269), dE P "row" 531 (.ref 276), dE P "__static_attributes__" 534 (.ref 277), dE P "__doc__" 535 (.none)] 2, #[]⟩) ::
    (nat_lit 279, ⟨.type "type", none, .cls ⟨"Con", [.ref 83], [.ref 279, .ref 83, .type "object"], 278, "Con", true, [], [], false, none, false⟩, #[some (.ref 255), none, some (.str "Con" 504), some (.str "Con" 512), some (.builtin "object.__new__"), some (.bool true)]⟩) ::
    (nat_lit 289, ⟨.type "tuple", none, .seq #[.none] 0, #[]⟩) ::
    (nat_lit 295, ⟨.type "code", none, .fields #[.str "__init__" 550, .str "Lit.__init__" 551, .str "/claim/cut.py" 552, .int 93 0, .int 4 0, .int 0 0, .int 0 0, .int 3 0, .ref 290, .bool true, .int 181 0, .ref 291, .none, .ref 292, .ref 293, .ref 294, .int 557 0, .int 93 0, .str "/claim/cut.py" 558], #[]⟩) ::
    (nat_lit 296, mkFn (path := [15, 0]) rfl "Lit.__init__" (.ref 289) (.str "lazycore.nodes" 236) (.ref 295)) ::
    (nat_lit 302, ⟨.type "code", none, .fields #[.str "row" 560, .str "Lit.row" 561, .str "/claim/cut.py" 562, .int 98 0, .int 1 0, .int 0 0, .int 0 0, .int 3 0, .ref 297, .bool true, .int 181 0, .ref 298, .none, .ref 299, .ref 300, .ref 301, .int 564 0, .int 98 0, .str "/claim/cut.py" 565], #[]⟩) ::
    (nat_lit 303, mkFn (path := [15, 1]) rfl "Lit.row" (.none) (.str "lazycore.nodes" 236) (.ref 302)) ::
    (nat_lit 305, ⟨.type "dict", none, .dict #[dE P "__module__" 545 (.str "lazycore.nodes" 236), dE P "__firstlineno__" 549 (.int 91 548), dE P "__init__" 559 (.ref 296), dE P "row" 566 (.ref 303), dE P "__static_attributes__" 569 (.ref 304), dE P "__doc__" 570 (.none)] 2, #[]⟩) ::
    (nat_lit 306, ⟨.type "type", none, .cls ⟨"Lit", [.ref 83], [.ref 306, .ref 83, .type "object"], 305, "Lit", true, [], [], false, none, false⟩, #[some (.ref 282), none, some (.str "Lit" 538), some (.str "Lit" 546), some (.builtin "object.__new__"), some (.bool true)]⟩) ::
    (nat_lit 316, ⟨.type "tuple", none, .seq #[.none] 0, #[]⟩) ::
    (nat_lit 322, ⟨.type "code", none, .fields #[.str "__init__" 585, .str "App.__init__" 586, .str "/claim/cut.py" 587, .int 102 0, .int 4 0, .int 0 0, .int 0 0, .int 3 0, .ref 317, .bool true, .int 181 0, .ref 318, .none, .ref 319, .ref 320, .ref 321, .int 592 0, .int 102 0, .str "/claim/cut.py" 593], #[]⟩) ::
    (nat_lit 323, mkFn (path := [16, 0]) rfl "App.__init__" (.ref 316) (.str "lazycore.nodes" 236) (.ref 322)) ::
    (nat_lit 329, ⟨.type "code", none, .fields #[.str "row" 595, .str "App.row" 596, .str "/claim/cut.py" 597, .int 107 0, .int 1 0, .int 0 0, .int 0 0, .int 3 0, .ref 324, .bool true, .int 181 0, .ref 325, .none, .ref 326, .ref 327, .ref 328, .int 599 0, .int 107 0, .str "/claim/cut.py" 600], #[]⟩) ::
    (nat_lit 330, mkFn (path := [16, 1]) rfl "App.row" (.none) (.str "lazycore.nodes" 236) (.ref 329)) ::
    (nat_lit 332, ⟨.type "dict", none, .dict #[dE P "__module__" 580 (.str "lazycore.nodes" 236), dE P "__firstlineno__" 584 (.int 100 583), dE P "__init__" 594 (.ref 323), dE P "row" 601 (.ref 330), dE P "__static_attributes__" 604 (.ref 331), dE P "__doc__" 605 (.none)] 2, #[]⟩) ::
    (nat_lit 333, ⟨.type "type", none, .cls ⟨"App", [.ref 83], [.ref 333, .ref 83, .type "object"], 332, "App", true, [], [], false, none, false⟩, #[some (.ref 309), none, some (.str "App" 573), some (.str "App" 581), some (.builtin "object.__new__"), some (.bool true)]⟩) ::
    (nat_lit 343, ⟨.type "tuple", none, .seq #[.none] 0, #[]⟩) ::
    (nat_lit 349, ⟨.type "code", none, .fields #[.str "__init__" 620, .str "Op.__init__" 621, .str "/claim/cut.py" 622, .int 111 0, .int 4 0, .int 0 0, .int 0 0, .int 3 0, .ref 344, .bool true, .int 181 0, .ref 345, .none, .ref 346, .ref 347, .ref 348, .int 627 0, .int 111 0, .str "/claim/cut.py" 628], #[]⟩) ::
    (nat_lit 350, mkFn (path := [17, 0]) rfl "Op.__init__" (.ref 343) (.str "lazycore.nodes" 236) (.ref 349)) ::
    (nat_lit 356, ⟨.type "code", none, .fields #[.str "row" 630, .str "Op.row" 631, .str "/claim/cut.py" 632, .int 116 0, .int 1 0, .int 0 0, .int 0 0, .int 3 0, .ref 351, .bool true, .int 181 0, .ref 352, .none, .ref 353, .ref 354, .ref 355, .int 634 0, .int 116 0, .str "/claim/cut.py" 635], #[]⟩) ::
    (nat_lit 357, mkFn (path := [17, 1]) rfl "Op.row" (.none) (.str "lazycore.nodes" 236) (.ref 356)) ::
    (nat_lit 359, ⟨.type "dict", none, .dict #[dE P "__module__" 615 (.str "lazycore.nodes" 236), dE P "__firstlineno__" 619 (.int 109 618), dE P "__init__" 629 (.ref 350), dE P "row" 636 (.ref 357), dE P "__static_attributes__" 639 (.ref 358), dE P "__doc__" 640 (.none)] 2, #[]⟩) ::
    (nat_lit 360, ⟨.type "type", none, .cls ⟨"Op", [.ref 83], [.ref 360, .ref 83, .type "object"], 359, "Op", true, [], [], false, none, false⟩, #[some (.ref 336), none, some (.str "Op" 608), some (.str "Op" 616), some (.builtin "object.__new__"), some (.bool true)]⟩) ::
    (nat_lit 370, ⟨.type "tuple", none, .seq #[.none] 0, #[]⟩) ::
    (nat_lit 376, ⟨.type "code", none, .fields #[.str "__init__" 655, .str "Infix.__init__" 656, .str "/claim/cut.py" 657, .int 120 0, .int 3 0, .int 0 0, .int 0 0, .int 3 0, .ref 371, .bool true, .int 181 0, .ref 372, .none, .ref 373, .ref 374, .ref 375, .int 661 0, .int 120 0, .str "/claim/cut.py" 662], #[]⟩) ::
    (nat_lit 377, mkFn (path := [18, 0]) rfl "Infix.__init__" (.ref 370) (.str "lazycore.nodes" 236) (.ref 376)) ::
    (nat_lit 383, ⟨.type "code", none, .fields #[.str "row" 664, .str "Infix.row" 665, .str "/claim/cut.py" 666, .int 124 0, .int 1 0, .int 0 0, .int 0 0, .int 3 0, .ref 378, .bool true, .int 181 0, .ref 379, .none, .ref 380, .ref 381, .ref 382, .int 668 0, .int 124 0, .str "/claim/cut.py" 669], #[]⟩) ::
    (nat_lit 384, mkFn (path := [18, 1]) rfl "Infix.row" (.none) (.str "lazycore.nodes" 236) (.ref 383)) ::
    (nat_lit 386, ⟨.type "dict", none, .dict #[dE P "__module__" 650 (.str "lazycore.nodes" 236), dE P "__firstlineno__" 654 (.int 118 653), dE P "__init__" 663 (.ref 377), dE P "row" 670 (.ref 384), dE P "__static_attributes__" 672 (.ref 385), dE P "__doc__" 673 (.none)] 2, #[]⟩) ::
    (nat_lit 387, ⟨.type "type", none, .cls ⟨"Infix", [.ref 83], [.ref 387, .ref 83, .type "object"], 386, "Infix", true, [], [], false, none, false⟩, #[some (.ref 363), none, some (.str "Infix" 643), some (.str "Infix" 651), some (.builtin "object.__new__"), some (.bool true)]⟩) ::
    (nat_lit 397, ⟨.type "tuple", none, .seq #[.none] 0, #[]⟩) ::
    (nat_lit 403, ⟨.type "code", none, .fields #[.str "__init__" 688, .str "Tuple.__init__" 689, .str "/claim/cut.py" 690, .int 128 0, .int 3 0, .int 0 0, .int 0 0, .int 3 0, .ref 398, .bool true, .int 181 0, .ref 399, .none, .ref 400, .ref 401, .ref 402, .int 694 0, .int 128 0, .str "/claim/cut.py" 695], #[]⟩) ::
    (nat_lit 404, mkFn (path := [19, 0]) rfl "Tuple.__init__" (.ref 397) (.str "lazycore.nodes" 236) (.ref 403)) ::
    (nat_lit 410, ⟨.type "code", none, .fields #[.str "row" 697, .str "Tuple.row" 698, .str "/claim/cut.py" 699, .int 132 0, .int 1 0, .int 0 0, .int 0 0, .int 3 0, .ref 405, .bool true, .int 181 0, .ref 406, .none, .ref 407, .ref 408, .ref 409, .int 701 0, .int 132 0, .str "/claim/cut.py" 702], #[]⟩) ::
    (nat_lit 411, mkFn (path := [19, 1]) rfl "Tuple.row" (.none) (.str "lazycore.nodes" 236) (.ref 410)) ::
    (nat_lit 413, ⟨.type "dict", none, .dict #[dE P "__module__" 683 (.str "lazycore.nodes" 236), dE P "__firstlineno__" 687 (.int 126 686), dE P "__init__" 696 (.ref 404), dE P "row" 703 (.ref 411), dE P "__static_attributes__" 705 (.ref 412), dE P "__doc__" 706 (.none)] 2, #[]⟩) ::
    (nat_lit 414, ⟨.type "type", none, .cls ⟨"Tuple", [.ref 83], [.ref 414, .ref 83, .type "object"], 413, "Tuple", true, [], [], false, none, false⟩, #[some (.ref 390), none, some (.str "Tuple" 676), some (.str "Tuple" 684), some (.builtin "object.__new__"), some (.bool true)]⟩) ::
    (nat_lit 424, ⟨.type "tuple", none, .seq #[.none] 0, #[]⟩) ::
    (nat_lit 430, ⟨.type "code", none, .fields #[.str "__init__" 721, .str "ListOf.__init__" 722, .str "/claim/cut.py" 723, .int 136 0, .int 3 0, .int 0 0, .int 0 0, .int 3 0, .ref 425, .bool true, .int 181 0, .ref 426, .none, .ref 427, .ref 428, .ref 429, .int 727 0, .int 136 0, .str "/claim/cut.py" 728], #[]⟩) ::
    (nat_lit 431, mkFn (path := [20, 0]) rfl "ListOf.__init__" (.ref 424) (.str "lazycore.nodes" 236) (.ref 430)) ::
    (nat_lit 437, ⟨.type "code", none, .fields #[.str "row" 730, .str "ListOf.row" 731, .str "/claim/cut.py" 732, .int 140 0, .int 1 0, .int 0 0, .int 0 0, .int 3 0, .ref 432, .bool true, .int 181 0, .ref 433, .none, .ref 434, .ref 435, .ref 436, .int 734 0, .int 140 0, .str "/claim/cut.py" 735], #[]⟩) ::
    (nat_lit 438, mkFn (path := [20, 1]) rfl "ListOf.row" (.none) (.str "lazycore.nodes" 236) (.ref 437)) ::
    (nat_lit 440, ⟨.type "dict", none, .dict #[dE P "__module__" 716 (.str "lazycore.nodes" 236), dE P "__firstlineno__" 720 (.int 134 719), dE P "__init__" 729 (.ref 431), dE P "row" 736 (.ref 438), dE P "__static_attributes__" 738 (.ref 439), dE P "__doc__" 739 (.none)] 2, #[]⟩) ::
    (nat_lit 441, ⟨.type "type", none, .cls ⟨"ListOf", [.ref 83], [.ref 441, .ref 83, .type "object"], 440, "ListOf", true, [], [], false, none, false⟩, #[some (.ref 417), none, some (.str "ListOf" 709), some (.str "ListOf" 717), some (.builtin "object.__new__"), some (.bool true)]⟩) ::
    (nat_lit 451, ⟨.type "tuple", none, .seq #[.none] 0, #[]⟩) ::
    (nat_lit 457, ⟨.type "code", none, .fields #[.str "__init__" 754, .str "Paren.__init__" 755, .str "/claim/cut.py" 756, .int 144 0, .int 3 0, .int 0 0, .int 0 0, .int 3 0, .ref 452, .bool true, .int 181 0, .ref 453, .none, .ref 454, .ref 455, .ref 456, .int 760 0, .int 144 0, .str "/claim/cut.py" 761], #[]⟩) ::
    (nat_lit 458, mkFn (path := [21, 0]) rfl "Paren.__init__" (.ref 451) (.str "lazycore.nodes" 236) (.ref 457)) ::
    (nat_lit 464, ⟨.type "code", none, .fields #[.str "row" 763, .str "Paren.row" 764, .str "/claim/cut.py" 765, .int 148 0, .int 1 0, .int 0 0, .int 0 0, .int 3 0, .ref 459, .bool true, .int 181 0, .ref 460, .none, .ref 461, .ref 462, .ref 463, .int 767 0, .int 148 0, .str "/claim/cut.py" 768], #[]⟩) ::
    (nat_lit 465, mkFn (path := [21, 1]) rfl "Paren.row" (.none) (.str "lazycore.nodes" 236) (.ref 464)) ::
    (nat_lit 467, ⟨.type "dict", none, .dict #[dE P "__module__" 749 (.str "lazycore.nodes" 236), dE P "__firstlineno__" 753 (.int 142 752), dE P "__init__" 762 (.ref 458), dE P "row" 769 (.ref 465), dE P "__static_attributes__" 771 (.ref 466), dE P "__doc__" 772 (.none)] 2, #[]⟩) ::
    (nat_lit 468, ⟨.type "type", none, .cls ⟨"Paren", [.ref 83], [.ref 468, .ref 83, .type "object"], 467, "Paren", true, [], [], false, none, false⟩, #[some (.ref 444), none, some (.str "Paren" 742), some (.str "Paren" 750), some (.builtin "object.__new__"), some (.bool true)]⟩) ::
    (nat_lit 478, ⟨.type "tuple", none, .seq #[.none] 0, #[]⟩) ::
    (nat_lit 484, ⟨.type "code", none, .fields #[.str "__init__" 789, .str "PVar.__init__" 790, .str "/claim/cut.py" 791, .int 153 0, .int 3 0, .int 0 0, .int 0 0, .int 3 0, .ref 479, .bool true, .int 181 0, .ref 480, .none, .ref 481, .ref 482, .ref 483, .int 795 0, .int 153 0, .str "/claim/cut.py" 796], #[]⟩) ::
    (nat_lit 485, mkFn (path := [23, 0]) rfl "PVar.__init__" (.ref 478) (.str "lazycore.pattern_nodes" 775) (.ref 484)) ::
    (nat_lit 491, ⟨.type "code", none, .fields #[.str "row" 798, .str "PVar.row" 799, .str "/claim/cut.py" 800, .int 157 0, .int 1 0, .int 0 0, .int 0 0, .int 3 0, .ref 486, .bool true, .int 181 0, .ref 487, .none, .ref 488, .ref 489, .ref 490, .int 802 0, .int 157 0, .str "/claim/cut.py" 803], #[]⟩) ::
    (nat_lit 492, mkFn (path := [23, 1]) rfl "PVar.row" (.none) (.str "lazycore.pattern_nodes" 775) (.ref 491)) ::
    (nat_lit 494, ⟨.type "dict", none, .dict #[dE P "__module__" 784 (.str "lazycore.pattern_nodes" 775), dE P "__firstlineno__" 788 (.int 151 787), dE P "__init__" 797 (.ref 485), dE P "row" 804 (.ref 492), dE P "__static_attributes__" 806 (.ref 493), dE P "__doc__" 807 (.none)] 2, #[]⟩) ::
    (nat_lit 495, ⟨.type "type", none, .cls ⟨"PVar", [.ref 83], [.ref 495, .ref 83, .type "object"], 494, "PVar", true, [], [], false, none, false⟩, #[some (.ref 471), none, some (.str "PVar" 777), some (.str "PVar" 785), some (.builtin "object.__new__"), some (.bool true)]⟩) ::
    (nat_lit 505, ⟨.type "tuple", none, .seq #[.none] 0, #[]⟩) ::
    (nat_lit 511, ⟨.type "code", none, .fields #[.str "__init__" 822, .str "PWild.__init__" 823, .str "/claim/cut.py" 824, .int 161 0, .int 2 0, .int 0 0, .int 0 0, .int 3 0, .ref 506, .bool true, .int 181 0, .ref 507, .none, .ref 508, .ref 509, .ref 510, .int 827 0, .int 161 0, .str "/claim/cut.py" 828], #[]⟩) ::
    (nat_lit 512, mkFn (path := [24, 0]) rfl "PWild.__init__" (.ref 505) (.str "lazycore.pattern_nodes" 775) (.ref 511)) ::
    (nat_lit 518, ⟨.type "code", none, .fields #[.str "row" 830, .str "PWild.row" 831, .str "/claim/cut.py" 832, .int 164 0, .int 1 0, .int 0 0, .int 0 0, .int 3 0, .ref 513, .bool true, .int 181 0, .ref 514, .none, .ref 515, .ref 516, .ref 517, .int 834 0, .int 164 0, .str "/claim/cut.py" 835], #[]⟩) ::
    (nat_lit 519, mkFn (path := [24, 1]) rfl "PWild.row" (.none) (.str "lazycore.pattern_nodes" 775) (.ref 518)) ::
    (nat_lit 521, ⟨.type "dict", none, .dict #[dE P "__module__" 817 (.str "lazycore.pattern_nodes" 775), dE P "__firstlineno__" 821 (.int 159 820), dE P "__init__" 829 (.ref 512), dE P "row" 836 (.ref 519), dE P "__static_attributes__" 837 (.ref 520), dE P "__doc__" 838 (.none)] 2, #[]⟩) ::
    (nat_lit 522, ⟨.type "type", none, .cls ⟨"PWild", [.ref 83], [.ref 522, .ref 83, .type "object"], 521, "PWild", true, [], [], false, none, false⟩, #[some (.ref 498), none, some (.str "PWild" 810), some (.str "PWild" 818), some (.builtin "object.__new__"), some (.bool true)]⟩) ::
    (nat_lit 532, ⟨.type "tuple", none, .seq #[.none] 0, #[]⟩) ::
    (nat_lit 538, ⟨.type "code", none, .fields #[.str "__init__" 853, .str "PLit.__init__" 854, .str "/claim/cut.py" 855, .int 168 0, .int 4 0, .int 0 0, .int 0 0, .int 3 0, .ref 533, .bool true, .int 181 0, .ref 534, .none, .ref 535, .ref 536, .ref 537, .int 860 0, .int 168 0, .str "/claim/cut.py" 861], #[]⟩) ::
    (nat_lit 539, mkFn (path := [25, 0]) rfl "PLit.__init__" (.ref 532) (.str "lazycore.pattern_nodes" 775) (.ref 538)) ::
    (nat_lit 545, ⟨.type "code", none, .fields #[.str "row" 863, .str "PLit.row" 864, .str "/claim/cut.py" 865, .int 173 0, .int 1 0, .int 0 0, .int 0 0, .int 3 0, .ref 540, .bool true, .int 181 0, .ref 541, .none, .ref 542, .ref 543, .ref 544, .int 867 0, .int 173 0, .str "/claim/cut.py" 868], #[]⟩) ::
    (nat_lit 546, mkFn (path := [25, 1]) rfl "PLit.row" (.none) (.str "lazycore.pattern_nodes" 775) (.ref 545)) ::
    (nat_lit 548, ⟨.type "dict", none, .dict #[dE P "__module__" 848 (.str "lazycore.pattern_nodes" 775), dE P "__firstlineno__" 852 (.int 166 851), dE P "__init__" 862 (.ref 539), dE P "row" 869 (.ref 546), dE P "__static_attributes__" 872 (.ref 547), dE P "__doc__" 873 (.none)] 2, #[]⟩) ::
    (nat_lit 549, ⟨.type "type", none, .cls ⟨"PLit", [.ref 83], [.ref 549, .ref 83, .type "object"], 548, "PLit", true, [], [], false, none, false⟩, #[some (.ref 525), none, some (.str "PLit" 841), some (.str "PLit" 849), some (.builtin "object.__new__"), some (.bool true)]⟩) ::
    (nat_lit 559, ⟨.type "tuple", none, .seq #[.none] 0, #[]⟩) ::
    (nat_lit 565, ⟨.type "code", none, .fields #[.str "__init__" 888, .str "PCon.__init__" 889, .str "/claim/cut.py" 890, .int 177 0, .int 4 0, .int 0 0, .int 0 0, .int 3 0, .ref 560, .bool true, .int 181 0, .ref 561, .none, .ref 562, .ref 563, .ref 564, .int 895 0, .int 177 0, .str "/claim/cut.py" 896], #[]⟩) ::
    (nat_lit 566, mkFn (path := [26, 0]) rfl "PCon.__init__" (.ref 559) (.str "lazycore.pattern_nodes" 775) (.ref 565)) ::
    (nat_lit 572, ⟨.type "code", none, .fields #[.str "row" 898, .str "PCon.row" 899, .str "/claim/cut.py" 900, .int 182 0, .int 1 0, .int 0 0, .int 0 0, .int 3 0, .ref 567, .bool true, .int 181 0, .ref 568, .none, .ref 569, .ref 570, .ref 571, .int 902 0, .int 182 0, .str "/claim/cut.py" 903], #[]⟩) ::
    (nat_lit 573, mkFn (path := [26, 1]) rfl "PCon.row" (.none) (.str "lazycore.pattern_nodes" 775) (.ref 572)) ::
    (nat_lit 575, ⟨.type "dict", none, .dict #[dE P "__module__" 883 (.str "lazycore.pattern_nodes" 775), dE P "__firstlineno__" 887 (.int 175 886), dE P "__init__" 897 (.ref 566), dE P "row" 904 (.ref 573), dE P "__static_attributes__" 907 (.ref 574), dE P "__doc__" 908 (.none)] 2, #[]⟩) ::
    (nat_lit 576, ⟨.type "type", none, .cls ⟨"PCon", [.ref 83], [.ref 576, .ref 83, .type "object"], 575, "PCon", true, [], [], false, none, false⟩, #[some (.ref 552), none, some (.str "PCon" 876), some (.str "PCon" 884), some (.builtin "object.__new__"), some (.bool true)]⟩) ::
    (nat_lit 586, ⟨.type "tuple", none, .seq #[.none] 0, #[]⟩) ::
    (nat_lit 592, ⟨.type "code", none, .fields #[.str "__init__" 923, .str "PTuple.__init__" 924, .str "/claim/cut.py" 925, .int 186 0, .int 3 0, .int 0 0, .int 0 0, .int 3 0, .ref 587, .bool true, .int 181 0, .ref 588, .none, .ref 589, .ref 590, .ref 591, .int 929 0, .int 186 0, .str "/claim/cut.py" 930], #[]⟩) ::
    (nat_lit 593, mkFn (path := [27, 0]) rfl "PTuple.__init__" (.ref 586) (.str "lazycore.pattern_nodes" 775) (.ref 592)) ::
    (nat_lit 599, ⟨.type "code", none, .fields #[.str "row" 932, .str "PTuple.row" 933, .str "/claim/cut.py" 934, .int 190 0, .int 1 0, .int 0 0, .int 0 0, .int 3 0, .ref 594, .bool true, .int 181 0, .ref 595, .none, .ref 596, .ref 597, .ref 598, .int 936 0, .int 190 0, .str "/claim/cut.py" 937], #[]⟩) ::
    (nat_lit 600, mkFn (path := [27, 1]) rfl "PTuple.row" (.none) (.str "lazycore.pattern_nodes" 775) (.ref 599)) ::
    (nat_lit 602, ⟨.type "dict", none, .dict #[dE P "__module__" 918 (.str "lazycore.pattern_nodes" 775), dE P "__firstlineno__" 922 (.int 184 921), dE P "__init__" 931 (.ref 593), dE P "row" 938 (.ref 600), dE P "__static_attributes__" 940 (.ref 601), dE P "__doc__" 941 (.none)] 2, #[]⟩) ::
    (nat_lit 603, ⟨.type "type", none, .cls ⟨"PTuple", [.ref 83], [.ref 603, .ref 83, .type "object"], 602, "PTuple", true, [], [], false, none, false⟩, #[some (.ref 579), none, some (.str "PTuple" 911), some (.str "PTuple" 919), some (.builtin "object.__new__"), some (.bool true)]⟩) ::
    (nat_lit 613, ⟨.type "tuple", none, .seq #[.none] 0, #[]⟩) ::
    (nat_lit 619, ⟨.type "code", none, .fields #[.str "__init__" 956, .str "PList.__init__" 957, .str "/claim/cut.py" 958, .int 194 0, .int 3 0, .int 0 0, .int 0 0, .int 3 0, .ref 614, .bool true, .int 181 0, .ref 615, .none, .ref 616, .ref 617, .ref 618, .int 962 0, .int 194 0, .str "/claim/cut.py" 963], #[]⟩) ::
    (nat_lit 620, mkFn (path := [28, 0]) rfl "PList.__init__" (.ref 613) (.str "lazycore.pattern_nodes" 775) (.ref 619)) ::
    (nat_lit 626, ⟨.type "code", none, .fields #[.str "row" 965, .str "PList.row" 966, .str "/claim/cut.py" 967, .int 198 0, .int 1 0, .int 0 0, .int 0 0, .int 3 0, .ref 621, .bool true, .int 181 0, .ref 622, .none, .ref 623, .ref 624, .ref 625, .int 969 0, .int 198 0, .str "/claim/cut.py" 970], #[]⟩) ::
    (nat_lit 627, mkFn (path := [28, 1]) rfl "PList.row" (.none) (.str "lazycore.pattern_nodes" 775) (.ref 626)) ::
    (nat_lit 629, ⟨.type "dict", none, .dict #[dE P "__module__" 951 (.str "lazycore.pattern_nodes" 775), dE P "__firstlineno__" 955 (.int 192 954), dE P "__init__" 964 (.ref 620), dE P "row" 971 (.ref 627), dE P "__static_attributes__" 973 (.ref 628), dE P "__doc__" 974 (.none)] 2, #[]⟩) ::
    (nat_lit 630, ⟨.type "type", none, .cls ⟨"PList", [.ref 83], [.ref 630, .ref 83, .type "object"], 629, "PList", true, [], [], false, none, false⟩, #[some (.ref 606), none, some (.str "PList" 944), some (.str "PList" 952), some (.builtin "object.__new__"), some (.bool true)]⟩) ::
    (nat_lit 640, ⟨.type "tuple", none, .seq #[.none] 0, #[]⟩) ::
    (nat_lit 646, ⟨.type "code", none, .fields #[.str "__init__" 989, .str "PAs.__init__" 990, .str "/claim/cut.py" 991, .int 202 0, .int 4 0, .int 0 0, .int 0 0, .int 3 0, .ref 641, .bool true, .int 181 0, .ref 642, .none, .ref 643, .ref 644, .ref 645, .int 996 0, .int 202 0, .str "/claim/cut.py" 997], #[]⟩) ::
    (nat_lit 647, mkFn (path := [29, 0]) rfl "PAs.__init__" (.ref 640) (.str "lazycore.pattern_nodes" 775) (.ref 646)) ::
    (nat_lit 653, ⟨.type "code", none, .fields #[.str "row" 999, .str "PAs.row" 1000, .str "/claim/cut.py" 1001, .int 207 0, .int 1 0, .int 0 0, .int 0 0, .int 3 0, .ref 648, .bool true, .int 181 0, .ref 649, .none, .ref 650, .ref 651, .ref 652, .int 1003 0, .int 207 0, .str "/claim/cut.py" 1004], #[]⟩) ::
    (nat_lit 654, mkFn (path := [29, 1]) rfl "PAs.row" (.none) (.str "lazycore.pattern_nodes" 775) (.ref 653)) ::
    (nat_lit 656, ⟨.type "dict", none, .dict #[dE P "__module__" 984 (.str "lazycore.pattern_nodes" 775), dE P "__firstlineno__" 988 (.int 200 987), dE P "__init__" 998 (.ref 647), dE P "row" 1005 (.ref 654), dE P "__static_attributes__" 1008 (.ref 655), dE P "__doc__" 1009 (.none)] 2, #[]⟩) ::
    (nat_lit 657, ⟨.type "type", none, .cls ⟨"PAs", [.ref 83], [.ref 657, .ref 83, .type "object"], 656, "PAs", true, [], [], false, none, false⟩, #[some (.ref 633), none, some (.str "PAs" 977), some (.str "PAs" 985), some (.builtin "object.__new__"), some (.bool true)]⟩) ::
    (nat_lit 667, ⟨.type "tuple", none, .seq #[.none] 0, #[]⟩) ::
    (nat_lit 673, ⟨.type "code", none, .fields #[.str "__init__" 1024, .str "PLazy.__init__" 1025, .str "/claim/cut.py" 1026, .int 211 0, .int 3 0, .int 0 0, .int 0 0, .int 3 0, .ref 668, .bool true, .int 181 0, .ref 669, .none, .ref 670, .ref 671, .ref 672, .int 1030 0, .int 211 0, .str "/claim/cut.py" 1031], #[]⟩) ::
    (nat_lit 674, mkFn (path := [30, 0]) rfl "PLazy.__init__" (.ref 667) (.str "lazycore.pattern_nodes" 775) (.ref 673)) ::
    (nat_lit 680, ⟨.type "code", none, .fields #[.str "row" 1033, .str "PLazy.row" 1034, .str "/claim/cut.py" 1035, .int 215 0, .int 1 0, .int 0 0, .int 0 0, .int 3 0, .ref 675, .bool true, .int 181 0, .ref 676, .none, .ref 677, .ref 678, .ref 679, .int 1037 0, .int 215 0, .str "/claim/cut.py" 1038], #[]⟩) ::
    (nat_lit 681, mkFn (path := [30, 1]) rfl "PLazy.row" (.none) (.str "lazycore.pattern_nodes" 775) (.ref 680)) ::
    (nat_lit 683, ⟨.type "dict", none, .dict #[dE P "__module__" 1019 (.str "lazycore.pattern_nodes" 775), dE P "__firstlineno__" 1023 (.int 209 1022), dE P "__init__" 1032 (.ref 674), dE P "row" 1039 (.ref 681), dE P "__static_attributes__" 1041 (.ref 682), dE P "__doc__" 1042 (.none)] 2, #[]⟩) ::
    (nat_lit 684, ⟨.type "type", none, .cls ⟨"PLazy", [.ref 83], [.ref 684, .ref 83, .type "object"], 683, "PLazy", true, [], [], false, none, false⟩, #[some (.ref 660), none, some (.str "PLazy" 1012), some (.str "PLazy" 1020), some (.builtin "object.__new__"), some (.bool true)]⟩) ::
    (nat_lit 694, ⟨.type "tuple", none, .seq #[.none] 0, #[]⟩) ::
    (nat_lit 700, ⟨.type "code", none, .fields #[.str "__init__" 1057, .str "PBang.__init__" 1058, .str "/claim/cut.py" 1059, .int 219 0, .int 3 0, .int 0 0, .int 0 0, .int 3 0, .ref 695, .bool true, .int 181 0, .ref 696, .none, .ref 697, .ref 698, .ref 699, .int 1063 0, .int 219 0, .str "/claim/cut.py" 1064], #[]⟩) ::
    (nat_lit 701, mkFn (path := [31, 0]) rfl "PBang.__init__" (.ref 694) (.str "lazycore.pattern_nodes" 775) (.ref 700)) ::
    (nat_lit 707, ⟨.type "code", none, .fields #[.str "row" 1066, .str "PBang.row" 1067, .str "/claim/cut.py" 1068, .int 223 0, .int 1 0, .int 0 0, .int 0 0, .int 3 0, .ref 702, .bool true, .int 181 0, .ref 703, .none, .ref 704, .ref 705, .ref 706, .int 1070 0, .int 223 0, .str "/claim/cut.py" 1071], #[]⟩) ::
    (nat_lit 708, mkFn (path := [31, 1]) rfl "PBang.row" (.none) (.str "lazycore.pattern_nodes" 775) (.ref 707)) ::
    (nat_lit 710, ⟨.type "dict", none, .dict #[dE P "__module__" 1052 (.str "lazycore.pattern_nodes" 775), dE P "__firstlineno__" 1056 (.int 217 1055), dE P "__init__" 1065 (.ref 701), dE P "row" 1072 (.ref 708), dE P "__static_attributes__" 1074 (.ref 709), dE P "__doc__" 1075 (.none)] 2, #[]⟩) ::
    (nat_lit 711, ⟨.type "type", none, .cls ⟨"PBang", [.ref 83], [.ref 711, .ref 83, .type "object"], 710, "PBang", true, [], [], false, none, false⟩, #[some (.ref 687), none, some (.str "PBang" 1045), some (.str "PBang" 1053), some (.builtin "object.__new__"), some (.bool true)]⟩) ::
    (nat_lit 721, ⟨.type "tuple", none, .seq #[.none] 0, #[]⟩) ::
    (nat_lit 727, ⟨.type "code", none, .fields #[.str "__init__" 1090, .str "PInfix.__init__" 1091, .str "/claim/cut.py" 1092, .int 227 0, .int 3 0, .int 0 0, .int 0 0, .int 3 0, .ref 722, .bool true, .int 181 0, .ref 723, .none, .ref 724, .ref 725, .ref 726, .int 1096 0, .int 227 0, .str "/claim/cut.py" 1097], #[]⟩) ::
    (nat_lit 728, mkFn (path := [32, 0]) rfl "PInfix.__init__" (.ref 721) (.str "lazycore.pattern_nodes" 775) (.ref 727)) ::
    (nat_lit 734, ⟨.type "code", none, .fields #[.str "row" 1099, .str "PInfix.row" 1100, .str "/claim/cut.py" 1101, .int 231 0, .int 1 0, .int 0 0, .int 0 0, .int 3 0, .ref 729, .bool true, .int 181 0, .ref 730, .none, .ref 731, .ref 732, .ref 733, .int 1103 0, .int 231 0, .str "/claim/cut.py" 1104], #[]⟩) ::
    (nat_lit 735, mkFn (path := [32, 1]) rfl "PInfix.row" (.none) (.str "lazycore.pattern_nodes" 775) (.ref 734)) ::
    (nat_lit 737, ⟨.type "dict", none, .dict #[dE P "__module__" 1085 (.str "lazycore.pattern_nodes" 775), dE P "__firstlineno__" 1089 (.int 225 1088), dE P "__init__" 1098 (.ref 728), dE P "row" 1105 (.ref 735), dE P "__static_attributes__" 1107 (.ref 736), dE P "__doc__" 1108 (.none)] 2, #[]⟩) ::
    (nat_lit 738, ⟨.type "type", none, .cls ⟨"PInfix", [.ref 83], [.ref 738, .ref 83, .type "object"], 737, "PInfix", true, [], [], false, none, false⟩, #[some (.ref 714), none, some (.str "PInfix" 1078), some (.str "PInfix" 1086), some (.builtin "object.__new__"), some (.bool true)]⟩) ::
    (nat_lit 748, ⟨.type "tuple", none, .seq #[.none] 0, #[]⟩) ::
    (nat_lit 754, ⟨.type "code", none, .fields #[.str "__init__" 1123, .str "PParen.__init__" 1124, .str "/claim/cut.py" 1125, .int 235 0, .int 3 0, .int 0 0, .int 0 0, .int 3 0, .ref 749, .bool true, .int 181 0, .ref 750, .none, .ref 751, .ref 752, .ref 753, .int 1129 0, .int 235 0, .str "/claim/cut.py" 1130], #[]⟩) ::
    (nat_lit 755, mkFn (path := [33, 0]) rfl "PParen.__init__" (.ref 748) (.str "lazycore.pattern_nodes" 775) (.ref 754)) ::
    (nat_lit 761, ⟨.type "code", none, .fields #[.str "row" 1132, .str "PParen.row" 1133, .str "/claim/cut.py" 1134, .int 239 0, .int 1 0, .int 0 0, .int 0 0, .int 3 0, .ref 756, .bool true, .int 181 0, .ref 757, .none, .ref 758, .ref 759, .ref 760, .int 1136 0, .int 239 0, .str "/claim/cut.py" 1137], #[]⟩) ::
    (nat_lit 762, mkFn (path := [33, 1]) rfl "PParen.row" (.none) (.str "lazycore.pattern_nodes" 775) (.ref 761)) ::
    (nat_lit 764, ⟨.type "dict", none, .dict #[dE P "__module__" 1118 (.str "lazycore.pattern_nodes" 775), dE P "__firstlineno__" 1122 (.int 233 1121), dE P "__init__" 1131 (.ref 755), dE P "row" 1138 (.ref 762), dE P "__static_attributes__" 1140 (.ref 763), dE P "__doc__" 1141 (.none)] 2, #[]⟩) ::
    (nat_lit 765, ⟨.type "type", none, .cls ⟨"PParen", [.ref 83], [.ref 765, .ref 83, .type "object"], 764, "PParen", true, [], [], false, none, false⟩, #[some (.ref 741), none, some (.str "PParen" 1111), some (.str "PParen" 1119), some (.builtin "object.__new__"), some (.bool true)]⟩) ::
    (nat_lit 773, ⟨.type "code", none, .fields #[.str "is_plain_name" 1146, .str "is_plain_name" 1147, .str "/claim/cut.py" 1148, .int 242 0, .int 1 0, .int 0 0, .int 0 0, .int 3 0, .ref 768, .bool true, .int 181 0, .ref 769, .none, .ref 770, .ref 771, .ref 772, .int 1150 0, .int 242 0, .str "/claim/cut.py" 1151], #[]⟩) ::
    (nat_lit 774, mkFn (path := [35]) rfl "is_plain_name" (.none) (.str "lazycore.read_patterns" 1144) (.ref 773)) ::
    (nat_lit 778, ⟨.type "code", none, .fields #[.str "pattern_of" 1153, .str "pattern_of" 1154, .str "/claim/cut.py" 1155, .int 244 0, .int 1 0, .int 0 0, .int 0 0, .int 3 0, .ref 775, .bool true, .int 181 0, .ref 776, .none, .none, .none, .ref 777, .int 1156 0, .int 244 0, .str "/claim/cut.py" 1157], #[]⟩) ::
    (nat_lit 779, mkFn (path := [36]) rfl "pattern_of" (.none) (.str "lazycore.read_patterns" 1144) (.ref 778)) ::
    (nat_lit 783, ⟨.type "code", none, .fields #[.str "applied_pattern" 1159, .str "applied_pattern" 1160, .str "/claim/cut.py" 1161, .int 262 0, .int 1 0, .int 0 0, .int 0 0, .int 3 0, .ref 780, .bool true, .int 181 0, .ref 781, .none, .none, .none, .ref 782, .int 1162 0, .int 262 0, .str "/claim/cut.py" 1163], #[]⟩) ::
    (nat_lit 784, mkFn (path := [37]) rfl "applied_pattern" (.none) (.str "lazycore.read_patterns" 1144) (.ref 783)) ::
    (nat_lit 790, ⟨.type "code", none, .fields #[.str "infix_pattern" 1165, .str "infix_pattern" 1166, .str "/claim/cut.py" 1167, .int 271 0, .int 2 0, .int 0 0, .int 0 0, .int 3 0, .ref 785, .bool true, .int 181 0, .ref 786, .none, .ref 787, .ref 788, .ref 789, .int 1174 0, .int 271 0, .str "/claim/cut.py" 1175], #[]⟩) ::
    (nat_lit 791, mkFn (path := [38]) rfl "infix_pattern" (.none) (.str "lazycore.read_patterns" 1144) (.ref 790)) ::
    (nat_lit 797, ⟨.type "code", none, .fields #[.str "con_operator" 1177, .str "con_operator" 1178, .str "/claim/cut.py" 1179, .int 285 0, .int 1 0, .int 0 0, .int 0 0, .int 3 0, .ref 792, .bool true, .int 181 0, .ref 793, .none, .ref 794, .ref 795, .ref 796, .int 1181 0, .int 285 0, .str "/claim/cut.py" 1182], #[]⟩) ::
    (nat_lit 798, mkFn (path := [39]) rfl "con_operator" (.none) (.str "lazycore.read_patterns" 1144) (.ref 797)) ::
    (nat_lit 804, ⟨.type "code", none, .fields #[.str "is_qualified" 1186, .str "is_qualified" 1187, .str "/claim/cut.py" 1188, .int 290 0, .int 1 0, .int 0 0, .int 0 0, .int 3 0, .ref 799, .bool true, .int 181 0, .ref 800, .none, .ref 801, .ref 802, .ref 803, .int 1190 0, .int 290 0, .str "/claim/cut.py" 1191], #[]⟩) ::
    (nat_lit 805, mkFn (path := [41]) rfl "is_qualified" (.none) (.str "lazycore.read_binds" 1184) (.ref 804)) ::
    (nat_lit 811, ⟨.type "code", none, .fields #[.str "own_name" 1193, .str "own_name" 1194, .str "/claim/cut.py" 1195, .int 292 0, .int 2 0, .int 0 0, .int 0 0, .int 3 0, .ref 806, .bool true, .int 181 0, .ref 807, .none, .ref 808, .ref 809, .ref 810, .int 1198 0, .int 292 0, .str "/claim/cut.py" 1199], #[]⟩) ::
    (nat_lit 812, mkFn (path := [42]) rfl "own_name" (.none) (.str "lazycore.read_binds" 1184) (.ref 811)) ::
    (nat_lit 818, ⟨.type "code", none, .fields #[.str "spine" 1201, .str "spine" 1202, .str "/claim/cut.py" 1203, .int 296 0, .int 1 0, .int 0 0, .int 0 0, .int 3 0, .ref 813, .bool true, .int 181 0, .ref 814, .none, .ref 815, .ref 816, .ref 817, .int 1206 0, .int 296 0, .str "/claim/cut.py" 1207], #[]⟩) ::
    (nat_lit 819, mkFn (path := [43]) rfl "spine" (.none) (.str "lazycore.read_binds" 1184) (.ref 818)) ::
    (nat_lit 825, ⟨.type "code", none, .fields #[.str "var_operators" 1209, .str "var_operators" 1210, .str "/claim/cut.py" 1211, .int 302 0, .int 1 0, .int 0 0, .int 0 0, .int 3 0, .ref 820, .bool true, .int 181 0, .ref 821, .none, .ref 822, .ref 823, .ref 824, .int 1216 0, .int 302 0, .str "/claim/cut.py" 1217], #[]⟩) ::
    (nat_lit 826, mkFn (path := [44]) rfl "var_operators" (.none) (.str "lazycore.read_binds" 1184) (.ref 825)) ::
    (nat_lit 832, ⟨.type "code", none, .fields #[.str "part_of" 1219, .str "part_of" 1220, .str "/claim/cut.py" 1221, .int 312 0, .int 2 0, .int 0 0, .int 0 0, .int 3 0, .ref 827, .bool true, .int 181 0, .ref 828, .none, .ref 829, .ref 830, .ref 831, .int 1224 0, .int 312 0, .str "/claim/cut.py" 1225], #[]⟩) ::
    (nat_lit 833, mkFn (path := [45]) rfl "part_of" (.none) (.str "lazycore.read_binds" 1184) (.ref 832)) ::
    (nat_lit 839, ⟨.type "code", none, .fields #[.str "operator_head" 1227, .str "operator_head" 1228, .str "/claim/cut.py" 1229, .int 314 0, .int 1 0, .int 0 0, .int 0 0, .int 3 0, .ref 834, .bool true, .int 181 0, .ref 835, .none, .ref 836, .ref 837, .ref 838, .int 1235 0, .int 314 0, .str "/claim/cut.py" 1236], #[]⟩) ::
    (nat_lit 840, mkFn (path := [46]) rfl "operator_head" (.none) (.str "lazycore.read_binds" 1184) (.ref 839)) ::
    (nat_lit 844, ⟨.type "code", none, .fields #[.str "function_head" 1238, .str "function_head" 1239, .str "/claim/cut.py" 1240, .int 323 0, .int 1 0, .int 0 0, .int 0 0, .int 3 0, .ref 841, .bool true, .int 181 0, .ref 842, .none, .none, .none, .ref 843, .int 1241 0, .int 323 0, .str "/claim/cut.py" 1242], #[]⟩) ::
    (nat_lit 845, mkFn (path := [47]) rfl "function_head" (.none) (.str "lazycore.read_binds" 1184) (.ref 844)) ::
    (nat_lit 851, ⟨.type "code", none, .fields #[.str "bound" 1244, .str "bound" 1245, .str "/claim/cut.py" 1246, .int 335 0, .int 3 0, .int 0 0, .int 0 0, .int 3 0, .ref 846, .bool true, .int 181 0, .ref 847, .none, .ref 848, .ref 849, .ref 850, .int 1251 0, .int 335 0, .str "/claim/cut.py" 1252], #[]⟩) ::
    (nat_lit 852, mkFn (path := [48]) rfl "bound" (.none) (.str "lazycore.read_binds" 1184) (.ref 851)) ::
    (nat_lit 858, ⟨.type "code", none, .fields #[.str "_law_pool" 1256, .str "_law_pool" 1257, .str "/claim/cut.py" 1258, .int 341 0, .int 2 0, .int 0 0, .int 0 0, .int 3 0, .ref 853, .bool true, .int 181 0, .ref 854, .none, .ref 855, .ref 856, .ref 857, .int 1264 0, .int 341 0, .str "/claim/cut.py" 1265], #[]⟩) ::
    (nat_lit 859, mkFn (path := [50]) rfl "_law_pool" (.none) (.str "law_og0026_01" 1254) (.ref 858)) ::
    (nat_lit 865, ⟨.type "code", none, .fields #[.str "_law_take" 1267, .str "_law_take" 1268, .str "/claim/cut.py" 1269, .int 348 0, .int 2 0, .int 0 0, .int 0 0, .int 3 0, .ref 860, .bool true, .int 181 0, .ref 861, .none, .ref 862, .ref 863, .ref 864, .int 1273 0, .int 348 0, .str "/claim/cut.py" 1274], #[]⟩) ::
    (nat_lit 866, mkFn (path := [51]) rfl "_law_take" (.none) (.str "law_og0026_01" 1254) (.ref 865)) ::
    (nat_lit 872, ⟨.type "code", none, .fields #[.str "_law_one" 1276, .str "_law_one" 1277, .str "/claim/cut.py" 1278, .int 355 0, .int 2 0, .int 0 0, .int 0 0, .int 3 0, .ref 867, .bool true, .int 181 0, .ref 868, .none, .ref 869, .ref 870, .ref 871, .int 1281 0, .int 355 0, .str "/claim/cut.py" 1282], #[]⟩) ::
    (nat_lit 873, mkFn (path := [52]) rfl "_law_one" (.none) (.str "law_og0026_01" 1254) (.ref 872)) ::
    (nat_lit 879, ⟨.type "code", none, .fields #[.str "_law_atom" 1284, .str "_law_atom" 1285, .str "/claim/cut.py" 1286, .int 357 0, .int 1 0, .int 0 0, .int 0 0, .int 3 0, .ref 874, .bool true, .int 181 0, .ref 875, .none, .ref 876, .ref 877, .ref 878, .int 1290 0, .int 357 0, .str "/claim/cut.py" 1291], #[]⟩) ::
    (nat_lit 880, mkFn (path := [53]) rfl "_law_atom" (.none) (.str "law_og0026_01" 1254) (.ref 879)) ::
    (nat_lit 886, ⟨.type "code", none, .fields #[.str "_law_side" 1293, .str "_law_side" 1294, .str "/claim/cut.py" 1295, .int 369 0, .int 1 0, .int 0 0, .int 0 0, .int 3 0, .ref 881, .bool true, .int 181 0, .ref 882, .none, .ref 883, .ref 884, .ref 885, .int 1302 0, .int 369 0, .str "/claim/cut.py" 1303], #[]⟩) ::
    (nat_lit 887, mkFn (path := [54]) rfl "_law_side" (.none) (.str "law_og0026_01" 1254) (.ref 886)) ::
    (nat_lit 893, ⟨.type "code", none, .fields #[.str "_law_operator" 1305, .str "_law_operator" 1306, .str "/claim/cut.py" 1307, .int 378 0, .int 1 0, .int 0 0, .int 0 0, .int 3 0, .ref 888, .bool true, .int 181 0, .ref 889, .none, .ref 890, .ref 891, .ref 892, .int 1316 0, .int 378 0, .str "/claim/cut.py" 1317], #[]⟩) ::
    (nat_lit 894, mkFn (path := [55]) rfl "_law_operator" (.none) (.str "law_og0026_01" 1254) (.ref 893)) ::
    (nat_lit 900, ⟨.type "code", none, .fields #[.str "_law_named" 1319, .str "_law_named" 1320, .str "/claim/cut.py" 1321, .int 388 0, .int 1 0, .int 0 0, .int 0 0, .int 3 0, .ref 895, .bool true, .int 181 0, .ref 896, .none, .ref 897, .ref 898, .ref 899, .int 1329 0, .int 388 0, .str "/claim/cut.py" 1330], #[]⟩) ::
    (nat_lit 901, mkFn (path := [56]) rfl "_law_named" (.none) (.str "law_og0026_01" 1254) (.ref 900)) ::
    (nat_lit 907, ⟨.type "code", none, .fields #[.str "_law_left" 1332, .str "_law_left" 1333, .str "/claim/cut.py" 1334, .int 395 0, .int 1 0, .int 0 0, .int 0 0, .int 3 0, .ref 902, .bool true, .int 181 0, .ref 903, .none, .ref 904, .ref 905, .ref 906, .int 1342 0, .int 395 0, .str "/claim/cut.py" 1343], #[]⟩) ::
    (nat_lit 908, mkFn (path := [57]) rfl "_law_left" (.none) (.str "law_og0026_01" 1254) (.ref 907)) ::
    (nat_lit 914, ⟨.type "code", none, .fields #[.str "_law_heard" 1345, .str "_law_heard" 1346, .str "/claim/cut.py" 1347, .int 412 0, .int 1 0, .int 0 0, .int 0 0, .int 3 0, .ref 909, .bool true, .int 181 0, .ref 910, .none, .ref 911, .ref 912, .ref 913, .int 1350 0, .int 412 0, .str "/claim/cut.py" 1351], #[]⟩) ::
    (nat_lit 915, mkFn (path := [58]) rfl "_law_heard" (.none) (.str "law_og0026_01" 1254) (.ref 914)) ::
    (nat_lit 919, ⟨.type "code", none, .fields #[.str "law" 1353, .str "law" 1354, .str "/claim/cut.py" 1355, .int 417 0, .int 1 0, .int 0 0, .int 0 0, .int 3 0, .ref 916, .bool true, .int 181 0, .ref 917, .none, .none, .none, .ref 918, .int 1356 0, .int 417 0, .str "/claim/cut.py" 1357], #[]⟩) ::
    (nat_lit 920, mkFn (path := [59]) rfl "law" (.none) (.str "law_og0026_01" 1254) (.ref 919)) ::
    []
noncomputable def KAs : List Addr := nat_lit 2 :: nat_lit 3 :: nat_lit 22 :: nat_lit 28 :: nat_lit 29 :: nat_lit 31 :: nat_lit 32 :: nat_lit 44 :: nat_lit 45 :: nat_lit 53 :: nat_lit 54 :: nat_lit 58 :: nat_lit 59 :: nat_lit 72 :: nat_lit 73 :: nat_lit 79 :: nat_lit 80 :: nat_lit 82 :: nat_lit 83 :: nat_lit 95 :: nat_lit 101 :: nat_lit 102 :: nat_lit 108 :: nat_lit 109 :: nat_lit 111 :: nat_lit 112 :: nat_lit 122 :: nat_lit 128 :: nat_lit 129 :: nat_lit 135 :: nat_lit 136 :: nat_lit 138 :: nat_lit 139 :: nat_lit 149 :: nat_lit 155 :: nat_lit 156 :: nat_lit 162 :: nat_lit 163 :: nat_lit 165 :: nat_lit 166 :: nat_lit 176 :: nat_lit 182 :: nat_lit 183 :: nat_lit 187 :: nat_lit 188 :: nat_lit 190 :: nat_lit 191 :: nat_lit 201 :: nat_lit 207 :: nat_lit 208 :: nat_lit 214 :: nat_lit 215 :: nat_lit 217 :: nat_lit 218 :: nat_lit 226 :: nat_lit 227 :: nat_lit 235 :: nat_lit 241 :: nat_lit 242 :: nat_lit 248 :: nat_lit 249 :: nat_lit 251 :: nat_lit 252 :: nat_lit 262 :: nat_lit 268 :: nat_lit 269 :: nat_lit 275 :: nat_lit 276 :: nat_lit 278 :: nat_lit 279 :: nat_lit 289 :: nat_lit 295 :: nat_lit 296 :: nat_lit 302 :: nat_lit 303 :: nat_lit 305 :: nat_lit 306 :: nat_lit 316 :: nat_lit 322 :: nat_lit 323 :: nat_lit 329 :: nat_lit 330 :: nat_lit 332 :: nat_lit 333 :: nat_lit 343 :: nat_lit 349 :: nat_lit 350 :: nat_lit 356 :: nat_lit 357 :: nat_lit 359 :: nat_lit 360 :: nat_lit 370 :: nat_lit 376 :: nat_lit 377 :: nat_lit 383 :: nat_lit 384 :: nat_lit 386 :: nat_lit 387 :: nat_lit 397 :: nat_lit 403 :: nat_lit 404 :: nat_lit 410 :: nat_lit 411 :: nat_lit 413 :: nat_lit 414 :: nat_lit 424 :: nat_lit 430 :: nat_lit 431 :: nat_lit 437 :: nat_lit 438 :: nat_lit 440 :: nat_lit 441 :: nat_lit 451 :: nat_lit 457 :: nat_lit 458 :: nat_lit 464 :: nat_lit 465 :: nat_lit 467 :: nat_lit 468 :: nat_lit 478 :: nat_lit 484 :: nat_lit 485 :: nat_lit 491 :: nat_lit 492 :: nat_lit 494 :: nat_lit 495 :: nat_lit 505 :: nat_lit 511 :: nat_lit 512 :: nat_lit 518 :: nat_lit 519 :: nat_lit 521 :: nat_lit 522 :: nat_lit 532 :: nat_lit 538 :: nat_lit 539 :: nat_lit 545 :: nat_lit 546 :: nat_lit 548 :: nat_lit 549 :: nat_lit 559 :: nat_lit 565 :: nat_lit 566 :: nat_lit 572 :: nat_lit 573 :: nat_lit 575 :: nat_lit 576 :: nat_lit 586 :: nat_lit 592 :: nat_lit 593 :: nat_lit 599 :: nat_lit 600 :: nat_lit 602 :: nat_lit 603 :: nat_lit 613 :: nat_lit 619 :: nat_lit 620 :: nat_lit 626 :: nat_lit 627 :: nat_lit 629 :: nat_lit 630 :: nat_lit 640 :: nat_lit 646 :: nat_lit 647 :: nat_lit 653 :: nat_lit 654 :: nat_lit 656 :: nat_lit 657 :: nat_lit 667 :: nat_lit 673 :: nat_lit 674 :: nat_lit 680 :: nat_lit 681 :: nat_lit 683 :: nat_lit 684 :: nat_lit 694 :: nat_lit 700 :: nat_lit 701 :: nat_lit 707 :: nat_lit 708 :: nat_lit 710 :: nat_lit 711 :: nat_lit 721 :: nat_lit 727 :: nat_lit 728 :: nat_lit 734 :: nat_lit 735 :: nat_lit 737 :: nat_lit 738 :: nat_lit 748 :: nat_lit 754 :: nat_lit 755 :: nat_lit 761 :: nat_lit 762 :: nat_lit 764 :: nat_lit 765 :: nat_lit 773 :: nat_lit 774 :: nat_lit 778 :: nat_lit 779 :: nat_lit 783 :: nat_lit 784 :: nat_lit 790 :: nat_lit 791 :: nat_lit 797 :: nat_lit 798 :: nat_lit 804 :: nat_lit 805 :: nat_lit 811 :: nat_lit 812 :: nat_lit 818 :: nat_lit 819 :: nat_lit 825 :: nat_lit 826 :: nat_lit 832 :: nat_lit 833 :: nat_lit 839 :: nat_lit 840 :: nat_lit 844 :: nat_lit 845 :: nat_lit 851 :: nat_lit 852 :: nat_lit 858 :: nat_lit 859 :: nat_lit 865 :: nat_lit 866 :: nat_lit 872 :: nat_lit 873 :: nat_lit 879 :: nat_lit 880 :: nat_lit 886 :: nat_lit 887 :: nat_lit 893 :: nat_lit 894 :: nat_lit 900 :: nat_lit 901 :: nat_lit 907 :: nat_lit 908 :: nat_lit 914 :: nat_lit 915 :: nat_lit 919 :: nat_lit 920 :: []
theorem KAs_is (P : Params) : KAs = (KF P).map (·.1) := by kernel_rfl
end
section
open PySem PySem.W PyProof.Rows PySem.Calls PySem.Spec
section
variable {M : Model} {A : Around} {E : Value → Shared → Prop} {s : Shared} {base : Heap} {l outer : List Env} {env : Env} {L e dx : Addr} {cls fl : Value} {Q : Unit → Shared → Prop}

/-- the exception at e: of class cls, its own dict at dx, its traceback's newest entry in flight fl -/
def TrAt (base : Heap) (e : Addr) (cls : Value) (dx : Addr) (fl : Value) (h : Heap) : Prop :=
  ∃ oe vs T oT ts, h.get? e = some oe ∧ oe.cls = cls ∧ oe.dict = some dx ∧ oe.data = .fields vs ∧ vs[1]? = some (.ref T) ∧ base.get? T = none ∧ T ≠ e ∧ h.get? T = some oT ∧ oT.data = .fields ts ∧ ts[3]? = some fl

/-- it flies over the frames l -/
def Fl (base : Heap) (l : List Env) (e : Addr) (cls : Value) (dx : Addr) (fl : Value) (h : Heap) : Prop :=
  base.StaysIn h ∧ base.get? e = none ∧ h.FunFrames base l ∧ TrAt base e cls dx fl h

theorem dict_mapFields (f : Array Value → Array Value) (o : Obj) : (Obj.mapFields f o).dict = o.dict := by
  obtain ⟨c, d, dt, sl⟩ := o; cases dt <;> rfl

theorem entry_new {oe : Obj} {vs : Array Value} {head : Value} {hn : Bool} (hfr : A.frames = some (env :: outer)) (hl : s.heap.FunFrames base (env :: outer)) (hf : env.frame = some L)
    (he : s.heap.get? e = some oe) (hb : base.StaysIn s.heap) (hen : base.get? e = none) (hd : oe.data = .fields vs) (hsz : 1 < vs.size) (hdx : oe.dict = some dx)
    (h : ∀ h', Fl base (env :: outer) e oe.cls dx (rawInt L) h' → s.heap.UpToSlots h' → Q () { s with heap := h' }) :
    wpAny M A (do let a ← frameOf env; let pl ← entryPlaceOf L hn; let b ← EntryCells.newEntry head a .none (rawInt L) .none pl; setField (.ref e) 1 b) Q E s := by
  have hene : e ∉ (env :: outer).filterMap (·.frame) := fun hm => by
    obtain ⟨_, o, ho, hnf⟩ := hl.mem hm
    rw [he] at ho; cases ho; exact hnf vs hd
  refine wpAny_bind (wpAny_frameOf_fun hfr hl hf fun h₁ hs₁ => wpAny_bind (wpAny_entryPlaceOf fun pl hpl => ?_))
  unfold EntryCells.newEntry newFields
  refine wpAny_bind (wpAny_newObj_type ?_ (hpl.sizeOk5 _ _ _ _ _))
  have he₁ : h₁.get? e = some oe := (hs₁.2.1 e hene).trans he
  have kb₁ : base.StaysIn h₁ := fun b o hbo => (hs₁.2.1 b fun hm => by rw [(hl.mem hm).1] at hbo; cases hbo).trans (hb b o hbo)
  have hT : base.get? h₁.objs.size = none := kb₁.fresh
  have hTe : h₁.objs.size ≠ e := Nat.ne_of_gt (Heap.lt_size he₁)
  generalize hob : ({ cls := .type "traceback", dict := none, data := .fields ([head, .ref L, .none, rawInt L, .none] ++ (if pl.isEmpty then List.replicate 6 Value.none else pl)).toArray } : Obj) = ob
  have hobF : ob.isFreed = false := by rw [← hob]; rfl
  have hobD : ob.data = .fields ([head, .ref L, .none, rawInt L, .none] ++ (if pl.isEmpty then List.replicate 6 Value.none else pl)).toArray := by rw [← hob]
  have he₂ := Heap.get?_push_of_some (h := h₁) ob he₁
  refine wpAny_setField he₂ hd hsz (h _ ?_ ?_)
  · have keep : ∀ b o, b ≠ e → h₁.get? b = some o → ((h₁.push ob).update e (Obj.mapFields (·.setIfInBounds 1 (Value.ref h₁.objs.size)))).get? b = some o := fun b o hbe hb => by
      rw [Heap.get?_update_other _ _ (Ne.symm hbe)]
      exact Heap.get?_push_of_some _ hb
    have hd₃ := Obj.data_mapFields hd (·.setIfInBounds 1 (Value.ref h₁.objs.size))
    refine ⟨fun b o hbo => keep b o (fun q => by rw [q, hen] at hbo; cases hbo) (kb₁ b o hbo), hen, hl.of_keeps fun b o hb' hnf => ?_, _, _, h₁.objs.size, ob, _, Heap.get?_update_self _ he₂ (Obj.isFreed_of_fields hd₃), Obj.cls_mapFields _ _, (dict_mapFields _ _).trans hdx, hd₃, by simp [hsz], hT, hTe, ?_, hobD, ?_⟩
    · obtain ⟨sl, hs⟩ := hs₁.2.2 b o hb'
      exact ⟨_, keep b _ (fun q => by rw [q, he] at hb'; cases hb'; exact hnf vs hd) hs, rfl⟩
    · exact (Heap.get?_update_other _ _ (Ne.symm hTe)).trans (Heap.get?_push_size h₁ hobF)
    · first | (simp; done) | (rcases hpl with rfl | ⟨_, _, _, _, _, _, _, rfl⟩ <;> simp)
  · intro b o hb' hnf
    obtain ⟨sl, hs⟩ := hs₁.2.2 b o hb'
    refine ⟨sl, ?_⟩
    rw [Heap.get?_update_other _ _ (show e ≠ b from fun q => by rw [← q, he] at hb'; cases hb'; exact hnf vs hd)]
    exact Heap.get?_push_of_some _ hs

/-- the newest entry's flight is set -/
theorem flight_none (hh : Fl base l e cls dx fl s.heap) (h : ∀ h', Fl base l e cls dx .none h' → s.heap.UpToSlots h' → Q () { s with heap := h' }) : wpAny M A (setFlight (.ref e) none) Q E s := by
  obtain ⟨hb, hen, hl, oe, vs, T, oT, ts, he, hc, hdx, hd, h1, hbT, hTe, hT, hdT, h3⟩ := hh
  have other : ∀ b, b ≠ T → (s.heap.update T (Obj.mapFields (·.setIfInBounds 3 ((none : Option Addr).elim Value.none fun f => rawInt f)))).get? b = s.heap.get? b := fun b hb => Heap.get?_update_other _ _ (Ne.symm hb)
  have nT : ∀ b o, s.heap.get? b = some o → (∀ vs, o.data ≠ .fields vs) → b ≠ T := fun b o hb hnf q => by
    rw [q, hT] at hb; cases hb; exact hnf ts hdT
  have h3' : 3 < ts.size := (Array.getElem?_eq_some_iff.mp h3).1
  unfold setFlight
  refine wpAny_bind (wpAny_field he hd h1 ?_)
  rw [if_pos (show (Value.ref T != Value.none) = true from by simp)]
  refine wpAny_setField hT hdT h3' (h _ ⟨fun b o hbo => (other b fun q => by rw [q, hbT] at hbo; cases hbo).trans (hb b o hbo), hen, hl.of_keeps fun b o hb' hnf => ⟨o, (other b (nT b o hb' hnf)).trans hb', rfl⟩, oe, vs, T, _, _, (other e (Ne.symm hTe)).trans he, hc, hdx, hd, h1, hbT, hTe, Heap.get?_update_self _ hT (Obj.isFreed_of_fields (Obj.data_mapFields hdT _)), Obj.data_mapFields hdT _, by simp [h3']⟩ ?_)
  exact fun b o hb' hnf => ⟨o.slots, (other b (nT b o hb' hnf)).trans hb'⟩

/-- a frame is noted: a new entry -/
theorem note_next (hfr : A.frames = some (env :: outer)) (hf : env.frame = some L) (hh : Fl base (env :: outer) e cls dx .none s.heap)
    (h : ∀ h', Fl base (env :: outer) e cls dx (rawInt L) h' → s.heap.UpToSlots h' → Q () { s with heap := h' }) : wpAny M A (noteFrame (.ref e) env) Q E s := by
  obtain ⟨hb, hen, hl, oe, vs, T, oT, ts, he, rfl, hdx, hd, h1, hbT, hTe, hT, hdT, h3⟩ := hh
  have other : ∀ b, b ≠ T → (s.heap.update T (Obj.mapFields (·.setIfInBounds 3 Value.none))).get? b = s.heap.get? b := fun b hb => Heap.get?_update_other _ _ (Ne.symm hb)
  have nT : ∀ b o, s.heap.get? b = some o → (∀ vs, o.data ≠ .fields vs) → b ≠ T := fun b o hb hnf q => by
    rw [q, hT] at hb; cases hb; exact hnf ts hdT
  unfold noteFrame
  simp only [hf]
  refine wpAny_bind (wpAny_field he hd h1 ?_)
  rw [if_pos (show (Value.ref T != Value.none) = true from by simp)]
  refine wpAny_bind (wpAny_field hT hdT h3 ?_)
  rw [if_neg (show ¬ ((Value.none == rawInt L) = true) from by simp [rawInt])]
  refine wpAny_bind (wpAny_setField hT hdT (Array.getElem?_eq_some_iff.mp h3).1 ?_)
  refine entry_new (base := base) (dx := dx) hfr (hl.of_keeps fun b o hb' hnf => ⟨o, (other b (nT b o hb' hnf)).trans hb', rfl⟩) hf ((other e (Ne.symm hTe)).trans he) (fun b o hbo => (other b fun q => by rw [q, hbT] at hbo; cases hbo).trans (hb b o hbo)) hen hd (Array.getElem?_eq_some_iff.mp h1).1 hdx fun h' k1 k2 => h h' k1 fun b o hb' hnf => k2 b o ((other b (nT b o hb' hnf)).trans hb') hnf

theorem note_first {oe : Obj} {vs : Array Value} (hfr : A.frames = some (env :: outer)) (hl : s.heap.FunFrames base (env :: outer)) (hf : env.frame = some L)
    (he : s.heap.get? e = some oe) (hb : base.StaysIn s.heap) (hen : base.get? e = none) (hd : oe.data = .fields vs) (h1 : vs[1]? = some .none) (hdx : oe.dict = some dx)
    (h : ∀ h', Fl base (env :: outer) e oe.cls dx (rawInt L) h' → s.heap.UpToSlots h' → Q () { s with heap := h' }) : wpAny M A (noteFrame (.ref e) env) Q E s := by
  unfold noteFrame
  simp only [hf]
  refine wpAny_bind (wpAny_field he hd h1 ?_)
  rw [if_neg (by decide)]
  exact entry_new hfr hl hf he hb hen hd (Array.getElem?_eq_some_iff.mp h1).1 hdx h

theorem leaves_first {oe : Obj} {vs : Array Value} (hfr : A.frames = some (env :: outer)) (hl : s.heap.FunFrames base (env :: outer)) (hf : env.frame = some L)
    (he : s.heap.get? e = some oe) (hb : base.StaysIn s.heap) (hen : base.get? e = none) (hd : oe.data = .fields vs) (h1 : vs[1]? = some .none) (hdx : oe.dict = some dx)
    (h : ∀ h', Fl base outer e oe.cls dx .none h' → s.heap.UpToSlots h' → Q () { s with heap := h' }) : wpAny M A (leaving env (.ref e)) Q E s := by
  unfold leaving
  refine wpAny_bind (note_first hfr hl hf he hb hen hd h1 hdx fun h₁ k1 k2 => ?_)
  exact flight_none k1 fun h₂ j1 j2 => h h₂ ⟨j1.1, j1.2.1, j1.2.2.1.2.2, j1.2.2.2⟩ (k2.trans j2)

theorem leaves_next (hfr : A.frames = some (env :: outer)) (hf : env.frame = some L) (hh : Fl base (env :: outer) e cls dx .none s.heap)
    (h : ∀ h', Fl base outer e cls dx .none h' → s.heap.UpToSlots h' → Q () { s with heap := h' }) : wpAny M A (leaving env (.ref e)) Q E s := by
  unfold leaving
  refine wpAny_bind (note_next hfr hf hh fun h₁ k1 k2 => ?_)
  exact flight_none k1 fun h₂ j1 j2 => h h₂ ⟨j1.1, j1.2.1, j1.2.2.1.2.2, j1.2.2.2⟩ (k2.trans j2)
end
end
section
open PySem PySem.W PyProof.Rows PySem.Calls PySem.Spec
/-- the exception's own dict tells a message that is not empty -/
def MsgDict (od : Obj) : Prop := ∃ es n x t, od = dictOf es n ∧ getL "message" es = some (some (.str x t)) ∧ (x == ("" : Str)) = false

def Err (C : Addr) (base G : Heap) (l : List Env) (e : Addr) (led : List (Addr × Obj)) (h : Heap) : Prop :=
  (∃ B dx od, base.StaysIn B ∧ (∀ b o, G.get? b = some o → b ∉ l.filterMap (·.frame) → B.get? b = some o) ∧ (∀ q ∈ led, B.get? q.1 = some q.2 ∧ G.get? q.1 = none) ∧
    B.get? dx = some od ∧ MsgDict od ∧ G.get? dx = none ∧ G.get? e = none ∧ Fl B l e (.ref C) dx .none h) ∧ G.UpToSlots h

theorem Err.sub {C : Addr} {base G : Heap} {l : List Env} {e : Addr} {led led' : List (Addr × Obj)} {h : Heap} (R : Err C base G l e led h) (k : ∀ q ∈ led', q ∈ led) : Err C base G l e led' h := by
  obtain ⟨⟨B, dx, od, a1, a2, a3, a4⟩, u⟩ := R
  exact ⟨⟨B, dx, od, a1, a2, fun q hq => a3 q (k q hq), a4⟩, u⟩

section
variable {M : Model} {A : Around} {E : Value → Shared → Prop} {s' : Shared} {C : Addr} {base g g₂ h : Heap} {outer : List Env} {L a e dx : Addr} {m : Str → Option Value} {name : Str} {scope : Scope} {cd : Value} {Q : Unit → Shared → Prop} {news led : List (Addr × Obj)}

theorem err_first {oe od : Obj} {vs : Array Value} (K : Below A base outer g) (F : Fr g L s'.heap m) (N : News g L s'.heap news) (me : (e, oe) ∈ news) (md : (dx, od) ∈ news) (hc : oe.cls = .ref C) (hdx : oe.dict = some dx) (hd : oe.data = .fields vs) (h1 : vs[1]? = some .none)
    (hm : MsgDict od) (hl : ∀ q ∈ led, q ∈ news ∧ q.1 ≠ e)
    (hQ : ∀ h', Err C base g outer e led h' → Q () { s' with heap := h' }) (hk : scope.kind = .function := by rfl) :
    wpAny M (A.deeper (envOf name scope L a cd)) (leaving (envOf name scope L a cd) (.ref e)) Q E s' := by
  have K' := K.push (name := name) (a := a) (cd := cd) F hk
  obtain ⟨es, n, x, t, rfl, hms⟩ := hm
  have hne : dx ≠ e := fun q => by
    have h2 := (N _ md).1; rw [q] at h2; rw [(N _ me).1] at h2; cases h2; cases hd
  have frame_not : ∀ q ∈ news, q.1 ∉ (envOf name scope L a cd :: outer).filterMap (·.frame) := fun q hq hm => by
    rcases kts_mem hm with z | z
    · exact (N q hq).2.1 z
    · obtain ⟨o, ho, _⟩ := (K.frames.mem z).2
      rw [(N q hq).2.2] at ho; cases ho
  have hide : ∀ b o, s'.heap.get? b = some o → b ≠ e → b ∉ (envOf name scope L a cd :: outer).filterMap (·.frame) → (hideAll s'.heap (e :: (envOf name scope L a cd :: outer).filterMap (·.frame))).get? b = some o := fun b o ho h1 h2 =>
    hideAll_get _ ho fun hm => (List.mem_cons.mp hm).elim h1 h2
  have gne : ∀ b o, g.get? b = some o → b ≠ e := fun b o ho q => by rw [q, (N _ me).2.2] at ho; cases ho
  have stB : base.StaysIn (hideAll s'.heap (e :: (envOf name scope L a cd :: outer).filterMap (·.frame))) := fun b o q => hide b o (K'.stays b o q) (gne b o (K.stays b o q)) fun hm => by rw [(K'.frames.mem hm).1] at q; cases q
  refine leaves_first (base := hideAll s'.heap (e :: (envOf name scope L a cd :: outer).filterMap (·.frame))) K'.stack (funFrames_hide K'.frames fun env he b hb => .tail _ (List.mem_filterMap.mpr ⟨env, he, hb⟩)) rfl (N _ me).1 (fun b o q => of_hideAll _ q) (hideAll_none _ (.head _)) hd h1 hdx fun h' k1 k2 => hQ h' ⟨⟨_, dx, _, stB, ?_, ?_, ?_, ⟨es, n, x, t, rfl, hms⟩, (N _ md).2.2, (N _ me).2.2, hc ▸ k1⟩, (Heap.UpToSlots.of_keeps F.keep).trans k2⟩
  · exact fun b o ho nm => hide b o (F.keep b o ho) (gne b o ho) fun hm => by
      rcases kts_mem hm with z | z
      · rw [z, kts_self F] at ho; cases ho
      · exact nm z
  · exact fun q hq => ⟨hide _ _ (N q (hl q hq).1).1 (hl q hq).2 (frame_not q (hl q hq).1), (N q (hl q hq).1).2.2⟩
  · exact hide _ _ (N _ md).1 hne (frame_not _ md)

theorem err_on (K : Below A base outer g) (F : Fr g L g₂ m) (R : Err C base g₂ (envOf name scope L a cd :: outer) e led s'.heap)
    (hQ : ∀ h', Err C base g outer e led h' → Q () { s' with heap := h' }) : wpAny M (A.deeper (envOf name scope L a cd)) (leaving (envOf name scope L a cd) (.ref e)) Q E s' := by
  obtain ⟨⟨B, dx, od, a1, a2, a3, a4, a5, a6, a7, a8⟩, u⟩ := R
  refine leaves_next (Around.frames_deeper K.stack) rfl a8 fun h' k1 k2 => hQ h' ⟨⟨B, dx, od, a1, fun b o ho nm => a2 b o (F.keep b o ho) fun hm => ?_, fun q hq => ⟨(a3 q hq).1, kts_none F.keep (a3 q hq).2⟩, a4, a5, kts_none F.keep a6, kts_none F.keep a7, k1⟩, (Heap.UpToSlots.of_keeps F.keep).trans (u.trans k2)⟩
  rcases kts_mem hm with z | z
  · rw [z, kts_self F] at ho; cases ho
  · exact nm z
end

section
variable {prog : Program} {w : World} {A₀ : Around} {E : Value → Shared → Prop} {s' : Shared} {C : Addr} {base g G : Heap} {outer : List Env} {L a e : Addr} {m : Str → Option Value} {name : Str} {scope : Scope} {cd : Value}
  {n : Str} {b₀ : Stmt} {suite : List Stmt} {pos np : Pos} {rest : List ExceptHandler} {Q : Flow → Shared → Prop} {led : List (Addr × Obj)} {KF : Frag}
  {p : Program} {loose : List Str} {mean : ExcName → Option Value} {mg mb : Str → Option Value} {x : Str}

theorem err_caught (R : Err C base G (envOf name scope L a cd :: outer) e led s'.heap) (F : Fr g L G m) (K : Below A₀ base outer g) (XB : KF.In base) (TB : Top p loose mean mg mb base)
    (ex : nsIn KF mainGlobals x = some (some (.ref C))) (q : ktsIn KF C "BaseException" = true)
    (k : ∀ h' g' tk dx od oe ws, KtsTurn (outer.filterMap (·.frame)) g g' → Fr g' L h' (fun y => if y = n then some (.ref e) else m y) → News g' L h' ((e, oe) :: (dx, od) :: led) → oe.cls = .ref C → oe.dict = some dx → oe.data = .fields ws → MsgDict od →
      Below A₀ base outer g' → KF.In g' → Top p loose mean mg mb g' →
      wpAny (model prog w) ((A₀.deeper (envOf name scope L a cd)).mark (some (.ref e))) (execs (b₀ :: suite) (envOf name scope L a cd))
        (fun f s₄ => wpAny (model prog w) (A₀.deeper (envOf name scope L a cd)) (do bindName (envOf name scope L a cd) n .none; unbindBehindTheSuite (envOf name scope L a cd) n pos) (fun _ s₅ => Q f s₅) E s₄)
        (AsSuiteRaised (model prog w) ((A₀.deeper (envOf name scope L a cd)).mark (some (.ref e))) (envOf name scope L a cd) n pos (notedBy (model prog w) ((A₀.deeper (envOf name scope L a cd)).mark (some (.ref e))) (envOf name scope L a cd) (cameBackBy (model prog w) (A₀.deeper (envOf name scope L a cd)) (envOf name scope L a cd) E)))
        { s' with heap := h', toks := tk })
    (hk : scope.kind = .function := by rfl) (hlo : (envOf name scope L a cd).kindOf n = some .local := by rfl) (hx : (envOf name scope L a cd).kindOf x = some .globalImplicit := by rfl) (hd : (x == ("__debug__" : Str)) = false := by decide) :
    wpAny (model prog w) (A₀.deeper (envOf name scope L a cd)) (noteFrame (.ref e) (envOf name scope L a cd))
      (fun _ s₂ => wpAny (model prog w) (A₀.deeper (envOf name scope L a cd)) (setFlight (.ref e) none) (fun _ s₃ =>
        wpAny (model prog w) (A₀.deeper (envOf name scope L a cd)) (handleBy (.ref e) (envOf name scope L a cd) (.ExceptHandler (some (.Name x np)) (some n) (b₀ :: suite) pos :: rest)) Q E s₃) E s₂) E s' := by
  obtain ⟨⟨B, dx, od, a1, a2, a3, a4, a5, a6, a7, a8⟩, u⟩ := R
  have hL : B.get? L = none := by
    obtain ⟨_, ⟨L', _, hf, hn', _⟩, _⟩ := a8.2.2.1
    obtain rfl : L = L' := Option.some.inj hf
    exact hn'
  refine note_next (Around.frames_deeper K.stack) rfl a8 fun h₄ k4 u4 => flight_none k4 fun h₅ k5 u5 => ?_
  obtain ⟨g₅, T₅, F₅, K₅⟩ := kts_ground K F a2 k5.1 (u.trans (u4.trans u5))
  have X₅ : KF.In g₅ := XB.keeps K₅.stays
  have P₅ : TopRead p loose mg mb g₅ := topRead_of (TB.keeps K₅.stays)
  obtain ⟨nm, q', N, bs, bm, hdct, sn, sub, ab, col, dd, k0, k1, k2, k3, k5', newId, hC, hbase, hbT⟩ := kts_cls X₅ q
  have hC₅ := F₅.keep _ _ hC
  obtain ⟨oe5, _, _, _, _, he5, hc5, _⟩ := k5.2.2.2
  refine wpAny_handleBy_cons (codeAny_handlers_test (name_K F₅ X₅ P₅ ex ?_ hk hx hd)) (by intro q; cases q)
  refine wpAny_excMatches_sub_self hC₅ he5 hc5 hbase (codeAny_handlers_suite_as ?_)
  refine flight_none k5 fun h₆ k6 u6 => ?_
  obtain ⟨g₆, T₆, F₆, K₆⟩ := kts_ground K F a2 k6.1 ((u.trans (u4.trans u5)).trans u6)
  obtain ⟨oe, ws, _, _, _, he, hc, hdx, hdd, _⟩ := k6.2.2.2
  have N₆ : News g₆ L h₆ ((e, oe) :: (dx, od) :: led) := by
    intro z hz
    rcases List.mem_cons.mp hz with rfl | hz
    · exact ⟨he, (fun z => by obtain ⟨_, ⟨L', o', hf, _, ho', hnf⟩, _⟩ := k6.2.2.1; obtain rfl : L = L' := Option.some.inj hf; obtain rfl : e = L := z; rw [he] at ho'; cases ho'; exact hnf _ hdd), T₆.none_ _ (kts_none F.keep a7)⟩
    · rcases List.mem_cons.mp hz with rfl | hz
      · exact ⟨k6.1 _ _ a4, (fun z => by rw [show dx = L from z, hL] at a4; cases a4), T₆.none_ _ (kts_none F.keep a6)⟩
      · exact ⟨k6.1 _ _ (a3 z hz).1, (fun q => by have h9 := (a3 z hz).1; rw [q, hL] at h9; cases h9), T₆.none_ _ (kts_none F.keep (a3 z hz).2)⟩
  refine stN F₆ N₆ (fun h₇ F₇ N₇ => ?_) hk hlo
  exact k h₇ g₆ _ dx od oe ws T₆ F₇ N₇ hc hdx hdd a5 K₆ (XB.keeps K₆.stays) (TB.keeps K₆.stays)
end
end
section
open PySem PySem.W PyProof.Rows PySem.Calls PySem.Spec
/-- what the part tells of an exception class whose __new__ is Exception's -/
def excMk (K : Frag) (C : Addr) : Prop := ∃ nm qn N bs bm hdct sn sub ab col dd k0 k1 k2 k3 k5,
    K.lookup C = some (excClassObj nm qn C N bs bm hdct sn sub ab col dd k0 k1 k2 k3 k5 "Exception.__new__") ∧ bm.contains (.type "Exception") = true ∧ bm.contains (.type "BaseException") = true ∧ bm.contains (.type "object") = true ∧ bm.contains (.type "AttributeError") = false ∧ bm.contains (.type "NameError") = false
theorem excMk_obj {K : Frag} {h : Heap} {C : Addr} (X : K.In h) (q : excMk K C) : ∃ nm qn N bs bm hdct sn sub ab col dd k0 k1 k2 k3 k5,
    h.get? C = some (excClassObj nm qn C N bs bm hdct sn sub ab col dd k0 k1 k2 k3 k5 "Exception.__new__") ∧ bm.contains (.type "Exception") = true ∧ bm.contains (.type "BaseException") = true ∧ bm.contains (.type "object") = true ∧ bm.contains (.type "AttributeError") = false ∧ bm.contains (.type "NameError") = false := by
  obtain ⟨nm, qn, N, bs, bm, hdct, sn, sub, ab, col, dd, k0, k1, k2, k3, k5, ho, r⟩ := q
  exact ⟨nm, qn, N, bs, bm, hdct, sn, sub, ab, col, dd, k0, k1, k2, k3, k5, X _ _ ho, r⟩

section
variable {prog : Program} {w : World} {A : Around} {R : Result → Shared → Prop} {h : Heap} {g : Array GenState} {d : Drawn} {t : Nat} {os : OsState}
variable {nm q : Str} {C N : Addr} {bs bm : List Value} {hdct : Bool} {sn : List Str} {sub : List Value} {ab : Bool} {col : Option Bool} {dd : Option Addr} {k0 k1 k2 k3 k5 : Option Value} {rest : List Value}

abbrev excObj (C t : Addr) : Obj := { cls := .ref C, data := .fields #[.ref t, .none, .none, .none, .bool false, .none] }
abbrev tupObj (vs : List Value) : Obj := { cls := .type "tuple", data := .seq vs.toArray }

theorem exc_check_new {M : Model} {E : Value → Shared → Prop} {Q : Unit → Shared → Prop} (hC : h.get? C = some (excClassObj nm q C N bs bm hdct sn sub ab col dd k0 k1 k2 k3 k5 "Exception.__new__")) (h1 : bm.contains (.type "Exception") = true)
    (hq : Q () ⟨h, g, d, t, os⟩) : wpAny M A (checkBuiltinCall "Exception.__new__" ⟨.ref C :: rest, []⟩) Q E ⟨h, g, d, t, os⟩ := by
  have F := PySem.F.excBase_Exception
  have hcont : (Value.ref C :: bm).contains (.type "Exception") = true := by rw [List.contains_cons, h1, Bool.or_true]
  have hstar := F.noStar
  simp only [checkBuiltinCall, F.newKind, F.newSplit, F.newRow]
  repeat (first | refine wpAny_loadPart_at hC ?_ | (refine wpAny_isSubtype_exc hC ?_; rw [hcont]) | refine wpAny_staticBase_exc hC ?_ | refine wpAny_madeBy_exc hC ?_ | simp only [bne_self_eq_false, Bool.false_eq_true, if_false] | wp_step)
  exact hq

theorem exc_new (hC : h.get? C = some (excClassObj nm q C N bs bm hdct sn sub ab col dd k0 k1 k2 k3 k5 "Exception.__new__")) (h1 : bm.contains (.type "Exception") = true) (h3 : bm.contains (.type "AttributeError") = false) (h4 : bm.contains (.type "NameError") = false)
    (hq : R (.ok (.ret (.ref (h.objs.size + 1)))) ⟨(h.push (tupObj rest)).push (excObj C h.objs.size), g, d, t, os⟩) (hrest : rest.length ≤ sizeLine) :
    codeAny (model prog w) A (.builtin "Exception.__new__" ⟨.ref C :: rest, []⟩) R ⟨h, g, d, t, os⟩ := by
  have F := PySem.F.excBase_Exception
  have hends := F.ends
  have hcB : (Value.ref C :: bm).contains (.type "Exception") = true := by rw [List.contains_cons, h1, Bool.or_true]
  have hcA : (Value.ref C :: bm).contains (.type "AttributeError") = false := by rw [List.contains_cons, h3]; rfl
  have hcN : (Value.ref C :: bm).contains (.type "NameError") = false := by rw [List.contains_cons, h4]; rfl
  refine codeAny_builtinAt F.entry ?_
  unfold Builtin.«BaseException.__new__»
  refine PySem.wpAt_bind ?_
  show PySem.wpAt _ _ _ (stack >>= _) _ _ _
  refine PySem.wpAt_bind (PySem.wpAt_stack fun p below => PySem.wpAt_of_wpAny ?_)
  wp_walk
  refine PySem.wpAt_of_wpAny ?_
  rw [F.owner]
  repeat (first | with_reducible refine wpAny_madeHere_exc F.canon hC ?_ | with_reducible refine wpAny_loadPart_at hC ?_ | (with_reducible refine wpAny_isSubtype_exc hC ?_; first | rw [hcB] | rw [hcA] | rw [hcN]) | wp_step)
  show R _ _
  rw [Heap.size_push]
  exact hq
end
section
variable {prog : Program} {w : World} {A : Around} {R : Result → Shared → Prop} {h : Heap} {g : Array GenState} {d : Drawn} {t : Nat} {os : OsState} {C : Addr} {rest : List Value} {K : Frag} {fI : Addr}
theorem exc_make (X : K.In h) (hm : excMk K C) (hi : findIn K (.ref C) "__init__" = some (some (.ref fI))) (hf : typeIn K (.ref fI) = some (.type "function")) (hrest : rest.length ≤ sizeLine)
    (hq : codeAny (model prog w) (A.under (.builtin "type.__call__" ⟨.ref C :: rest, []⟩)) (.call (.ref fI) ⟨.ref (h.objs.size + 1) :: rest, []⟩) (InitBack (h.objs.size + 1) R) ⟨(h.push (tupObj rest)).push (excObj C h.objs.size), g, d, t, os⟩) :
    codeAny (model prog w) A (.call (.ref C) ⟨rest, []⟩) R ⟨h, g, d, t, os⟩ := by
  obtain ⟨nm, qn, N, bs, bm, hdct, sn, sub, ab, col, dd, k0, k1, k2, k3, k5, hC, h1, h2, h2', h3, h4⟩ := excMk_obj X hm
  have F := PySem.F.excBase_Exception
  have f1 := tc_lookup
  have f2 := tc_bind (.ref C)
  have hT : (⟨h, g, d, t, os⟩ : Shared).TypeIs (.ref C) "type" := ⟨_, hC, rfl⟩
  have k : ∀ b o, h.get? b = some o → ((h.push (tupObj rest)).push (excObj C h.objs.size)).get? b = some o := fun b o e => Heap.get?_push_of_some _ (Heap.get?_push_of_some _ e)
  have hC₁ := k _ _ hC
  have hget : ((h.push (tupObj rest)).push (excObj C h.objs.size)).get? (h.objs.size + 1) = some (excObj C h.objs.size) := by heap_get
  have hcC : (Value.ref C :: bm).contains (.ref C) = true := by simp
  have i1 : Looks (model prog w) ((h.push (tupObj rest)).push (excObj C h.objs.size)) (typeLookup (.ref C) "__init__") (some (.ref fI)) := (looks_findIn X hi).keeps k
  have b1 : Looks (model prog w) ((h.push (tupObj rest)).push (excObj C h.objs.size)) (bindSpecial (.ref fI) (.ref (h.objs.size + 1))) (.ref fI, [.ref (h.objs.size + 1)]) := (bind_fn X (.ref (h.objs.size + 1)) hf).keeps k
  refine codeAny_of_tree ?_
  show wpAny _ _ (callAny (.ref C) _) _ _ _
  repeat (any_goals (first | assumption | with_reducible refine wpAny_loadPart_at hC ?_ | wp_step))
  refine ⟨rfl, ?_⟩
  refine codeAny_call_builtin_at (Code.quiet_builtin _ (by decide +kernel)) entry_typeCall (wpAny_check_type_call_sub hC ?_)
  repeat (first | with_reducible refine wpAny_loadPart_at hC ?_ | with_reducible refine wpAny_madeBy_exc hC ?_ | wp_step)
  refine codeAny_call_builtin_code (Code.quiet_builtin _ F.quiet) (exc_check_new hC h1 ?_)
  refine exc_new hC h1 h3 h4 ?_ hrest
  show wpAny _ _ _ _ _ ⟨(h.push (tupObj rest)).push (excObj C h.objs.size), g, d, t, os⟩
  unfold isInstance
  repeat (first | with_reducible refine wpAny_loadPart_at hget ?_ | (refine wpAny_isSubtype_exc hC₁ ?_; rw [hcC]) | wp_step)
  show wpAny _ _ (typeLookup (.ref C) _) _ _ _
  refine i1.here ?_
  refine wpAny_holding (wpAny_bind (b1.here ?_))
  refine wpAny_bind (wpAny_call ?_)
  refine codeAny_mono hq fun r s' z => ?_
  rcases r with e | (v | _ | _ | _) <;> first | exact z | exact z.elim | skip
  obtain ⟨rfl, z⟩ := z
  exact wpAny_pure (wpAny_pure z)
end
end
section
open PySem PySem.W PyProof.Rows PySem.Calls PySem.Spec
section
variable {prog : Program} {w : World} {A : Around} {R : Result → Shared → Prop} {E : Value → Shared → Prop} {s : Shared} {K : Frag} {C L : Addr} {h₀ : Heap} {m : Str → Option Value} {news : List (Addr × Obj)} {rest : List Value} {fI : Addr}
theorem exc_make_K (F : Fr h₀ L s.heap m) (X₀ : K.In h₀) (N : News h₀ L s.heap news) (hm : excMk K C) (hi : findIn K (.ref C) "__init__" = some (some (.ref fI))) (hf : isFn K (.ref fI) = true) (hrest : rest.length ≤ 1000) {Q : Value → Shared → Prop}
    (h : ∀ e t h', Fr h₀ L h' m → News h₀ L h' ((e, excObj C t) :: (t, tupObj rest) :: news) → (∀ p ∈ news, p.1 < t) → t < e → (∀ p ∈ news, p.1 < e) →
      codeAny (model prog w) (A.under (.builtin "type.__call__" ⟨.ref C :: rest, []⟩)) (.call (.ref fI) ⟨.ref e :: rest, []⟩) (InitBack e fun r s' => match r with | .ok (.ret v) => Q v s' | .ok _ => False | .error e => E e s') { s with heap := h' }) :
    wpAny (model prog w) A (call (.ref C) rest) Q E s := by
  obtain ⟨hh, g, d, t, os⟩ := s
  refine wpAny_call (exc_make (X₀.keeps F.keep) hm hi (beq_iff_eq.mp hf) (Nat.le_trans hrest (by rw [sizeLine_eq]; omega)) (h _ hh.objs.size _ ((F.push _).push _) ?_ (fun p hp => Heap.lt_size (N p hp).1) (Nat.lt_succ_self _) (fun p hp => Nat.lt_succ_of_lt (Heap.lt_size (N p hp).1))))
  have := (N.push F (tupObj rest)).push (F.push _) (excObj C hh.objs.size)
  rwa [Heap.size_push] at this

theorem raise_made {env : Env} {x : Sem Value} {Q : Flow → Shared → Prop} (hh : A.handled = none)
    (h : wpAny (model prog w) A x (fun v s₁ => ∃ e a0 od sl, v = .ref e ∧ excMk K C ∧ K.In s₁.heap ∧ s₁.heap.get? e = some ⟨.ref C, od, .fields #[a0, .none, .none, .none, .bool false, .none], sl⟩ ∧ E (.ref e) s₁) E s) :
    wpAny (model prog w) A (raiseStmt env (some x) none) Q E s := by
  unfold raiseStmt
  refine wpAny_bind (wpAny_mono h (fun v s₁ h₁ => ?_) fun _ _ x => x)
  obtain ⟨e, a0, od, sl, rfl, hm, X, he, hE⟩ := h₁
  obtain ⟨nm, qn, N, bs, bm, hdct, sn, sub, ab, col, dd, k0, k1, k2, k3, k5, hC, h1, h2, h2', h3, h4⟩ := excMk_obj X hm
  have hcB : (Value.ref C :: bm).contains (.type "BaseException") = true := by rw [List.contains_cons, h2, Bool.or_true]
  obtain ⟨hp, g, d, tk, os⟩ := s₁
  repeat (first | with_reducible refine wpAny_loadPart_at he ?_ | with_reducible refine wpAny_loadPart_at hC ?_ | (with_reducible refine wpAny_isSubtype_exc hC ?_; rw [hcB]) | wp_step)
  exact wpAny_raiseNew_none hh hE
theorem Raise_made {env : Env} {x : PySem.Expr} {pos : Pos} {Q : Flow → Shared → Prop} (hh : A.handled = none)
    (h : wpAny (model prog w) A (eval x env) (fun v s₁ => ∃ e a0 od sl, v = .ref e ∧ excMk K C ∧ K.In s₁.heap ∧ s₁.heap.get? e = some ⟨.ref C, od, .fields #[a0, .none, .none, .none, .bool false, .none], sl⟩ ∧ E (.ref e) s₁) E s) :
    wpAny (model prog w) A (exec (.Raise (some x) none pos) env) Q E s := by
  rw [arm_exec_Raise]
  refine wpAny_bind (wpAny_standAt ?_)
  refine raise_made (K := K) (C := C) hh ?_
  refine wpAny_bind (wpAny_mono h (fun v s₃ h₃ => wpAny_bind (wpAny_standAt (wpAny_pure h₃))) fun _ _ x => x)
end
end
section
open PySem PySem.W PyProof.Rows PySem.Calls PySem.Spec
abbrev excO (C : Addr) (od : Option Addr) (a0 : Value) (sl : Array (Option Value)) : Obj := ⟨.ref C, od, .fields #[a0, .none, .none, .none, .bool false, .none], sl⟩
section
variable {prog : Program} {w : World} {A : Around} {E : Value → Shared → Prop} {s : Shared} {K : Frag} {C L e : Addr} {h₀ : Heap} {m : Str → Option Value} {news : List (Addr × Obj)} {f : Obj → List (Addr × Obj)} {od : Option Addr} {v : Value} {t0 : Addr} {sl : Array (Option Value)}

theorem exc_init (F : Fr h₀ L s.heap m) (X₀ : K.In h₀) (N : News h₀ L s.heap news) (hm : excMk K C) (U : UpdF e (excO C od (.ref t0) sl) news f) {Q : Value → Shared → Prop}
    (h : ∀ t2 h', Fr h₀ L h' m → News h₀ L h' ((t2, tupObj [v]) :: f (excO C od (.ref t2) sl)) → (∀ p ∈ news, p.1 < t2) → Q .none { s with heap := h' }) :
    wpAny (model prog w) A (call (.builtin "Exception.__init__") [.ref e, v]) Q E s := by
  obtain ⟨hp, g, d, t, os⟩ := s
  have FB := PySem.F.excBase_Exception
  have X := X₀.keeps F.keep
  obtain ⟨nm, qn, N', bs, bm, hdct, sn, sub, ab, col, dd, k0, k1, k2, k3, k5, hC, h1, h2, h2', h3, h4⟩ := excMk_obj X hm
  have hcB : (Value.ref C :: bm).contains (.type "Exception") = true := by rw [List.contains_cons, h1, Bool.or_true]
  obtain ⟨pre, post, rfl, hf, a, b⟩ := U.split
  have he := (N (e, excO C od (.ref t0) sl) (by simp)).1
  dsimp only at he hC
  have hshort := FB.noStar
  refine wpAny_call (codeAny_call_builtin FB.init.plain FB.initEntry ?_)
  have chk : ∀ {Q : Unit → Shared → Prop} {E : Value → Shared → Prop} {A : Around}, Q () ⟨hp, g, d, t, os⟩ → wpAny (model prog w) A (checkBuiltinCall "Exception.__init__" ⟨[.ref e, v], []⟩) Q E ⟨hp, g, d, t, os⟩ := by
    intro Q E A hq
    simp only [checkBuiltinCall, FB.initKind, FB.initSplit, FB.initRow]
    repeat (first | (with_reducible refine wpAny_loadPart_at he ?_) | with_reducible refine wpAny_loadPart_at hC ?_ | (refine wpAny_isSubtype_exc hC ?_; rw [hcB]) | wp_step)
    exact hq
  refine chk ?_
  have F2 := F.push (tupObj [v])
  have N2 := N.push F (tupObj [v])
  obtain ⟨F3, N3⟩ := news_upd (o' := excO C od (.ref hp.objs.size) sl) (f := Obj.mapFields (·.setIfInBounds 0 (.ref hp.objs.size))) F2 (pre := (hp.objs.size, tupObj [v]) :: pre) (by simpa using N2)
    (fun p hq => by
      rcases List.mem_cons.mp hq with rfl | hq
      · exact Nat.ne_of_gt (Heap.lt_size he)
      · exact a p hq) b rfl rfl
  have he2 := Heap.get?_push_of_some (tupObj [v]) he
  have fin := h hp.objs.size _ F3 (by rw [hf]; exact N3) fun p hq => Heap.lt_size (N p hq).1
  unfold Builtin.«BaseException.__init__»
  wp_walk
  exact fin
end
end
section
open PySem PySem.W PyProof.Rows PySem.Calls PySem.Spec Builtin Builtin.ObjectAttr
section
variable {prog : Program} {w : World} {A : Around} {E : Value → Shared → Prop} {R : Result → Shared → Prop} {s : Shared} {K : Frag} {C L e dx : Addr} {h₀ : Heap} {m : Str → Option Value} {news : List (Addr × Obj)} {f : Obj → List (Addr × Obj)} {a0 v : Value} {sl : Array (Option Value)} {name : Str} {cd : ClassData} {tk : Tok}

/-- what the part tells of a class whose instances take stores as Exception's do -/
def excSt (K : Frag) (C : Addr) : Prop := ∃ cd a b, clsIn K C = some cd ∧ cd.hasDict = true ∧ cd.mro = [.ref a, .ref b, .type "Exception", .type "BaseException", .type "object"]
theorem excSt_facts (q : excSt K C) : ∃ cd, clsIn K C = some cd ∧ cd.hasDict = true ∧ cd.mro.isEmpty = false ∧ cd.mro.contains (.type "object") = true ∧ cd.mro.contains (.type "BaseException") = true ∧ ∀ self, refuseLoop self "__setattr__" cd.mro = pure () := by
  obtain ⟨cd, a, b, hc, h1, hm⟩ := q
  refine ⟨cd, hc, h1, ?_⟩
  rw [hm]
  refine ⟨rfl, by simp, by simp, fun self => ?_⟩
  rw [refuseLoop_ref, refuseLoop_ref]; exact PySem.F.store_Exception.passes self

theorem exc_osa {ox : Obj} {od : Option Obj} (X : K.In s.heap) (I : InstAt s.heap e ox C od) (q : excSt K C) (ht : takerIn K C name = some none)
    (h : ∀ b, wpAny (model prog w) A.in1 (storeInOwnDict (.ref e) (.ref C) (.str name tk) name v b)
      (fun fin s' => match fin with | .done f => R (.ok f) s' | .again c' => c'.quiet = true ∧ codeAny (model prog w) A c' R s') (fun e s' => R (.error e) s') s) :
    codeAny (model prog w) A (.call (.builtin "object.__setattr__") ⟨[.ref e, .str name tk, v], []⟩) R s := by
  have SF := PySem.F.store_object
  obtain ⟨cd, hc, hd, ne, ho, _, hr⟩ := excSt_facts q
  have sub : Looks (model prog w) s.heap (isInstance (.ref e) (.type "object")) true := I.type.andThen (looks_mroIn X (by unfold mroIn; rw [hc, Option.bind_some, if_neg (by rw [ne]; decide), ho]))
  refine codeAny_call_builtin SF.slot.plain SF.entry (@check_slot (model prog w) _ _ s "object.__setattr__" "object" "__setattr__" (.ref e) [.str name tk, v] [] _ SF.kind SF.split sub (SF.args (.ref e) (.str name tk) v) ?_)
  obtain ⟨attr, ha, hr'⟩ := Option.bind_eq_some_iff.mp ht
  have hm : Looks (model prog w) s.heap (mroOf (.ref C)) cd.mro := (looks_clsIn X hc).andThen .now
  have L3 : Looks (model prog w) s.heap (storeTaker? attr) none := by
    cases attr with
    | none => exact .now
    | some a =>
      obtain ⟨b, hb, hb'⟩ := Option.map_eq_some_iff.mp hr'
      cases b with
      | true => cases hb'
      | false => exact (looks_takesIn X hb).andThen .now
  rw [osa_eq, refuse_eq]
  refine wpAny_bind (wpAny_bind (I.type.here (wpAny_bind (hm.here ?_))))
  rw [hr]
  refine wpAny_pure (wpAny_bind (I.type.here (wpAny_bind ((looks_findIn X ha).here (wpAny_bind (L3.here ?_))))))
  exact h _

theorem exc_storeIn {A' : Around} {led led' : List (Addr × Obj)} {es es' : List DictEntry} {n n' : Nat} (F : Fr h₀ L s.heap m) (N : News h₀ L s.heap led) (U : Upd dx (dictOf es n) (dictOf es' n') led led') (hl : (getL name es).isSome = true)
    (q : (putL name (PyData.keyHash w.params name) (.str name s.toks) v es, putN name es n) = (es', n')) (hz : es'.length ≤ 1000)
    (h : ∀ h', Fr h₀ L h' m → News h₀ L h' led' → R (.ok (.ret .none)) { s with heap := h', toks := s.toks + 1 }) :
    wpAny (model prog w) A' (storeInDict dx (.str name tk) name v) (fun fin s' => match fin with | .done f => R (.ok f) s' | .again c' => c'.quiet = true ∧ codeAny (model prog w) A c' R s') (fun e s' => R (.error e) s') s := by
  obtain ⟨pre, post, rfl, rfl, a, b⟩ := U.split
  obtain ⟨q1, q2⟩ := Prod.mk.inj q
  obtain ⟨U1, U2⟩ := news_upd (o' := dictOf es' n') (f := Obj.putName name (PyData.keyHash w.params name) (.str name s.toks) v) F N a b (by rw [putName_dict, q1, q2]) rfl
  have D := (N (dx, dictOf es n) (by simp)).1
  have D' := (U2 (dx, dictOf es' n') (by simp)).1
  have c : (!es.any (·.key.isStr name) && es.any (·.refKey)) = false := by
    unfold getL at hl
    split at hl
    · rename_i en he
      rw [List.any_eq_true.mpr ⟨en, List.mem_of_find?_eq_some he, List.find?_some he⟩]; rfl
    · split at hl
      · cases hl
      · rename_i z; rw [Bool.not_eq_true] at z; rw [z, Bool.and_false]
  refine wpAny_bind (wpAny_pure (wpAny_bind ?_))
  unfold nsSet
  refine wpAny_bind (wpAny_bind (wpAny_askSetting (wpAny_pure (wpAny_bind (wpAny_mkText (wpAny_bind (wpAny_loadPart D ?_)))))))
  dsimp only
  rw [aRefKeyMayBeTheName_at, List.any_toArray, List.any_toArray, c]
  refine wpAny_updatePart D ?_
  refine wpAny_bind (wpAny_lookBehind D' (pastItsLine_dict (by rw [List.size_toArray, sizeLine_eq]; omega)) ?_)
  exact wpAny_pure (h _ U1 U2)

theorem exc_set1 (F : Fr h₀ L s.heap m) (X₀ : K.In h₀) (N : News h₀ L s.heap news) (q : excSt K C) (hs : findIn K (.ref C) "__setattr__" = some (some (.builtin "object.__setattr__"))) (ht : takerIn K C name = some none)
    (U : UpdF e (excO C none a0 sl) news f) {Q : Unit → Shared → Prop}
    (h : ∀ d h', Fr h₀ L h' m → News h₀ L h' ((d, dictOf [⟨PyData.keyHash w.params name, .str name (s.toks + 1), v⟩] 1) :: f (excO C (some d) a0 sl)) → (∀ p ∈ news, p.1 < d) → Q () { s with heap := h', toks := s.toks + 2 }) :
    wpAny (model prog w) A (setAttr (.ref e) name v) Q E s := by
  have X := X₀.keeps F.keep
  obtain ⟨cd, hc, hd, ne, ho, _, hr⟩ := excSt_facts q
  obtain ⟨pre, post, rfl, hf, a, b⟩ := U.split
  have he := (N (e, excO C none a0 sl) (by simp)).1
  dsimp only at he
  have I : InstAt s.heap e (excO C none a0 sl) C none := ⟨he, rfl, rfl, trivial⟩
  refine set_plain X I hs ?_
  refine exc_osa (s := { s with toks := s.toks + 1 }) X I q ht fun bb => ?_
  have F2 := F.push (emptyDict)
  have N2 := N.push F (emptyDict)
  obtain ⟨F3, N3⟩ := news_upd (o' := excO C (some s.heap.objs.size) a0 sl) (f := fun o => { o with dict := some s.heap.objs.size }) F2 (pre := (s.heap.objs.size, emptyDict) :: pre) (by simpa using N2)
    (fun p hq => by
      rcases List.mem_cons.mp hq with rfl | hq
      · exact Nat.ne_of_gt (Heap.lt_size he)
      · exact a p hq) b rfl rfl
  refine wpAny_bind (wpAny_pure (wpAny_bind (wpAny_bind (wpAny_loadPart he (wpAny_bind (looks_clsIn X hc _ _ _ _ (fun _ _ z => z) ?_))))))
  rw [hd]
  refine wpAny_bind (wpAny_alloc (wpAny_bind (wpAny_update (Heap.get?_push_of_some emptyDict he) (wpAny_pure ?_))))
  refine exc_storeIn (R := fun r s' => match r with | .ok (.ret _) => Q () s' | .ok _ => False | .error e => E e s') (prog := prog) (w := w) (name := name) (v := v) (s := ⟨(s.heap.push emptyDict).update e fun o => { o with dict := some s.heap.objs.size }, s.gens, s.drawn, s.toks + 1, s.os⟩) (led' := (s.heap.objs.size, dictOf [⟨PyData.keyHash w.params name, .str name (s.toks + 1), v⟩] 1) :: f (excO C (some s.heap.objs.size) a0 sl)) (es := []) (n := 0) F3 N3 ?_ rfl rfl (Nat.le_of_ble_eq_true rfl) fun h' F4 N4 => h _ h' F4 N4 fun p hq => Heap.lt_size (N p hq).1
  rw [hf]
  refine .head fun p hq => ?_
  rcases List.mem_append.mp hq with hq | hq
  · exact Nat.ne_of_lt (Heap.lt_size (N p (List.mem_append.mpr (.inl hq))).1)
  · rcases List.mem_cons.mp hq with rfl | hq
    · exact Nat.ne_of_lt (Heap.lt_size he)
    · exact Nat.ne_of_lt (Heap.lt_size (N p (List.mem_append.mpr (.inr (.tail _ hq)))).1)

theorem exc_set2 {es es' : List DictEntry} {n n' : Nat} {led' : List (Addr × Obj)} (F : Fr h₀ L s.heap m) (X₀ : K.In h₀) (N : News h₀ L s.heap news) (q : excSt K C) (hs : findIn K (.ref C) "__setattr__" = some (some (.builtin "object.__setattr__"))) (ht : takerIn K C name = some none)
    (me : (e, excO C (some dx) a0 sl) ∈ news) (md : (dx, dictOf es n) ∈ news) (hl : (getL name es).isSome = true)
    (hp : (putL name (PyData.keyHash w.params name) (.str name (s.toks + 1)) v es, putN name es n) = (es', n')) (U : Upd dx (dictOf es n) (dictOf es' n') news led') (hz : es'.length ≤ 1000) {Q : Unit → Shared → Prop}
    (h : ∀ h', Fr h₀ L h' m → News h₀ L h' led' → Q () { s with heap := h', toks := s.toks + 2 }) :
    wpAny (model prog w) A (setAttr (.ref e) name v) Q E s := by
  have X := X₀.keeps F.keep
  obtain ⟨cd, hc, hd, ne, ho, _, hr⟩ := excSt_facts q
  have he := (N _ me).1
  have I : InstAt s.heap e (excO C (some dx) a0 sl) C (some (dictOf es n)) := ⟨he, rfl, rfl, (N _ md).1⟩
  refine set_plain X I hs ?_
  refine exc_osa (s := { s with toks := s.toks + 1 }) X I q ht fun bb => ?_
  refine wpAny_bind (wpAny_pure (wpAny_bind (wpAny_bind (wpAny_loadPart he (wpAny_bind (looks_clsIn X hc _ _ _ _ (fun _ _ z => z) ?_))))))
  rw [hd]
  refine wpAny_pure (a := some dx) ?_
  exact exc_storeIn (R := fun r s' => match r with | .ok (.ret _) => Q () s' | .ok _ => False | .error e => E e s') (prog := prog) (w := w) (s := { s with toks := s.toks + 1 }) F N U hl hp hz h
end
end
section
open PySem PySem.W PyProof.Rows PySem.Calls PySem.Spec Builtin Builtin.ObjectAttr
section
variable {prog : Program} {w : World} {A : Around} {E : Value → Shared → Prop} {s : Shared} {K : Frag} {C e : Addr} {v : Value} {name : Str} {ox : Obj} {od : Option Obj}
theorem exc_get {expr : Bool} {Q : Value → Shared → Prop} (X : K.In s.heap) (I : InstAt s.heap e ox C od) (q : excSt K C) (hga : findIn K (.ref C) "__getattribute__" = some (some (.builtin "BaseException.__getattribute__"))) (hgx : findIn K (.ref C) "__getattr__" = some none)
    (hf : findObj K C od name = some (.value v)) (hh : handedIn v = true) (h : Q v { s with toks := s.toks + 1 }) : wpAny (model prog w) A (getAttr (.ref e) name expr) Q E s := by
  obtain ⟨hp, g, d, t, os⟩ := s
  obtain ⟨cd, hc, hd, ne, _, ho, hr⟩ := excSt_facts q
  have FB := PySem.F.attrBase_Exception
  have L0 := I.type (M := model prog w)
  have L1 := looks_find (M := model prog w) X I hf
  have L2 := looks_findIn (M := model prog w) X hga
  have L3 := looks_findIn (M := model prog w) X hgx
  have sub : Looks (model prog w) hp (isInstance (.ref e) (.type "BaseException")) true := I.type.andThen (looks_mroIn X (by unfold mroIn; rw [hc, Option.bind_some, if_neg (by rw [ne]; decide), ho]))
  dsimp only at L0 L1 L2 L3
  have f3 := FB.ga.bind (.ref e)
  have hx0 : (expr && onTheHeap (Value.builtin "BaseException.__getattribute__")) = false := by cases expr <;> rfl
  have hx2 : (Value.builtin "BaseException.__getattribute__" == Value.builtin "object.__getattribute__") = false := by decide +kernel
  have hx1 : (onTheHeap (Value.ref C) && Value.builtin "BaseException.__getattribute__" == Value.builtin "object.__getattribute__") = false := by rw [hx2]; rfl
  unfold getAttr getAttrBy
  refine wpAny_bind (wpAny_mkText (wpAny_holding (wpAny_bind (L0.at (wpAny_bind (L2.at ?_))))))
  dsimp only
  rw [hx1]
  show wpAny _ _ (getAttrByItsOwn _ _ _ _ _ _) _ _ _
  unfold getAttrByItsOwn hookBefore callGetattribute boundAndCalled
  refine wpAny_bind (L3.at ?_)
  rw [hx0, f3]
  refine wpAny_bind (wpAny_attempt (wpAny_holding ?_))
  rw [if_neg Bool.false_ne_true]
  refine wpAny_bind (wpAny_pure (wpAny_call (codeAny_call_builtin FB.ga.plain PySem.F.entry_bexc_ga (@check_slot (model prog w) _ _ ⟨hp, g, d, t + 1, os⟩ "BaseException.__getattribute__" "BaseException" "__getattribute__" (.ref e) [.str name t] [] _ (by decide +kernel) (by decide +kernel) sub (PySem.F.args_bexc_ga (.ref e) (.str name t)) ?_))))
  refine wpAny_bind (wpAny_pure (wpAny_bind (wpAny_pure (wpAny_bind (L0.at (wpAny_bind (L1.at ?_)))))))
  refine wpAny_pure ?_
  show wpAny _ _ (handedOut v) _ _ _
  rw [handedOut_of hh]; exact wpAny_pure h
end
end
section
open PySem PySem.W PyProof.Rows PySem.Calls PySem.Spec
abbrev Led := List (Addr × Obj)
abbrev Rho := List (Str × Value)
abbrev prog : Program := PySem.Challenge.rw_og0026_01.row.prog
abbrev ent (h : Int) (k : Str) (t : Tok) (v : Value) : DictEntry := ⟨h, .str k t, v⟩
abbrev src (x : Int) (tx : Tok) (y : Int) (ty : Tok) (n : Nat) : Obj := listOf #[.int x tx, .int y ty] n
abbrev tupO (vs : List Value) : Obj := ⟨.type "tuple", none, .seq vs.toArray 0, #[]⟩

/-- where the walk stands: the world, the caller's frame, what may be raised, the source -/
structure Gx where
  w : World
  dp : Nat
  un : Nat
  k : Nat
  gd : Option (List Code)
  cn : Str
  sc : Scope
  L : Addr
  a : Addr
  ccd : Value
  cl : List (Str × Addr)
  outer : List Env
  base : Heap
  g : Heap
  ex : Option Led
  src : Option Addr
  μ : (Str → Option Value) → Prop
abbrev Gx.A (G : Gx) : Around := ktrTop G.dp G.un G.gd G.cn G.sc G.L G.a G.ccd G.cl G.outer
abbrev Gx.env (G : Gx) : Env := envX G.cn G.sc G.L G.a G.ccd G.cl
structure Gx.Ok (G : Gx) : Prop where
  B : ∃ A₀, Below A₀ G.base G.outer G.g
  K : (KF G.w.params).In G.g
  T : ∃ p loose mean mg mb, Top p loose mean mg mb G.g
  f : G.sc.kind = .function
  d : G.dp + G.k < 1000
  u : G.un + 8 * G.k < 9900

inductive SrcL : Option Addr → Led → Prop
  | none : SrcL none []
  | some {S x y tx ty k} : 0 ≤ x → 0 ≤ y → y < 2147483647 → SrcL (some S) [(S, src x tx y ty k)]

structure Inv (G : Gx) (Φ : Led) (ρ : Rho) (led : Led) (h : Heap) : Prop where
  F : ∃ m, Fr G.g G.L h m ∧ G.μ m ∧ ∀ p ∈ ρ, m p.1 = some p.2
  N : ∃ sl, SrcL G.src sl ∧ News G.g G.L h (led ++ (sl ++ Φ)) ∧ ((led ++ (sl ++ Φ)).map (·.1)).Nodup

/-- what is raised: come from a callee (Err), or made just now in this frame -/
def Exc (G : Gx) (Φ : Led) (s : Shared) (E : Value → Shared → Prop) : Prop :=
  ∀ all0, G.ex = some all0 → (∀ e g' m' h' tk', Fr G.g G.L g' m' → Err 45 G.base g' (G.env :: G.outer) e (all0 ++ Φ) h' → E (.ref e) { s with heap := h', toks := tk' }) ∧
    ∀ e dx a0 sl od m' news h' tk', Fr G.g G.L h' m' → News G.g G.L h' news → (e, excO 45 (some dx) a0 sl) ∈ news → (dx, od) ∈ news → MsgDict od → (∀ q ∈ all0 ++ Φ, q ∈ news ∧ q.1 ≠ e) → E (.ref e) { s with heap := h', toks := tk' }

def ExcS (G : Gx) (Φ : Led) (s : Shared) (E : Value → Shared → Prop) : Prop := (PassesOwn (model prog G.w) G.A G.env E ∧ ∀ m, G.μ m) ∧ Exc G Φ s E

def Tr {α : Type} (G : Gx) (t : Sem α) (ρ : Rho) (led : Led) (R : α → Rho → Led → Prop) : Prop :=
  G.Ok → ∀ (Φ : Led) (s : Shared) (Q : α → Shared → Prop) (E : Value → Shared → Prop), Inv G Φ ρ led s.heap →
    (∀ v ρ' led' h' tk', Inv G Φ ρ' led' h' → R v ρ' led' → Q v { s with heap := h', toks := tk' }) → ExcS G Φ s E → wpAny (model prog G.w) G.A t Q E s

/-- the same, the frame as it was -/
def Tv {α : Type} (G : Gx) (t : Sem α) (ρ : Rho) (led : Led) (R : α → Led → Prop) : Prop :=
  G.Ok → ∀ (Φ : Led) (s : Shared) (Q : α → Shared → Prop) (E : Value → Shared → Prop), Inv G Φ ρ led s.heap →
    (∀ v led' h' tk', Inv G Φ ρ led' h' → R v led' → Q v { s with heap := h', toks := tk' }) → Exc G Φ s E → wpAny (model prog G.w) G.A t Q E s

def Ex (G : Gx) (e : PySem.Expr) (ρ : Rho) (led : Led) (R : Value → Led → Prop) : Prop := Tv G (eval e G.env) ρ led R
def Exs (G : Gx) (es : List PySem.Expr) (ρ : Rho) (led : Led) (R : List Value → Led → Prop) : Prop := ∀ pos, Tv G (spliced (backTo pos (starEach es G.env))) ρ led fun vs led' => vs.length = es.length ∧ R vs led'
def Ca (G : Gx) (f : Value) (vs : List Value) (ρ : Rho) (led : Led) (R : Value → Led → Prop) : Prop := Tv G (call f vs) ρ led R
def Te (G : Gx) (e : PySem.Expr) (ρ : Rho) (led : Led) (R : Bool → Led → Prop) : Prop := Tv G (isTrue e G.env (eval e G.env)) ρ led R
def Cm (G : Gx) (op : CmpOp) (a b : Value) (ρ : Rho) (led : Led) (R : Bool → Led → Prop) : Prop := Tv G (compareOp op a b) ρ led (fun v led' => ∃ c, v = .bool c ∧ R c led')
def Bi (G : Gx) (op : Operator) (a b : Value) (ρ : Rho) (led : Led) (R : Value → Led → Prop) : Prop := Tv G (binaryOp op a b) ρ led R
def Ga (G : Gx) (o : Value) (x : Str) (ρ : Rho) (led : Led) (R : Value → Led → Prop) : Prop := ∀ b, Tv G (getAttr o x b) ρ led R
def Sa (G : Gx) (o : Value) (x : Str) (v : Value) (ρ : Rho) (led : Led) (R : Led → Prop) : Prop := Tv G (setAttr o x v) ρ led (fun _ => R)
def Ss (G : Gx) (l : List Stmt) (ρ : Rho) (led : Led) (R : Flow → Rho → Led → Prop) : Prop := Tr G (execs l G.env) ρ led R
def St (G : Gx) (t : Stmt) (ρ : Rho) (led : Led) (R : Flow → Rho → Led → Prop) : Prop := Tr G (exec t G.env) ρ led R

/-- x is a local name, a name of the module -/
def locN (sc : Scope) (x : Str) : Bool := decide (sc.names.lookup x = some .local) && !(x == ("__debug__" : Str))
def gloN (sc : Scope) (x : Str) : Bool := decide (sc.names.lookup x = some .globalImplicit) && !(x == ("__debug__" : Str))
theorem locN.to {sc : Scope} {x : Str} (h : locN sc x = true) : sc.names.lookup x = some .local ∧ (x == ("__debug__" : Str)) = false := by
  unfold locN at h
  rw [Bool.and_eq_true, decide_eq_true_eq, Bool.not_eq_true'] at h
  exact h
theorem gloN.to {sc : Scope} {x : Str} (h : gloN sc x = true) : sc.names.lookup x = some .globalImplicit ∧ (x == ("__debug__" : Str)) = false := by
  unfold gloN at h
  rw [Bool.and_eq_true, decide_eq_true_eq, Bool.not_eq_true'] at h
  exact h
-- what comes after, by names
@[reducible] def consK (R : List Value → Led → Prop) (v : Value) : List Value → Led → Prop := fun vs led => R (v :: vs) led
@[reducible] def exsK (G : Gx) (es : List PySem.Expr) (ρ : Rho) (R : List Value → Led → Prop) : Value → Led → Prop := fun v led => Exs G es ρ led (consK R v)
section
variable {G : Gx} {ρ : Rho} {led : Led}
-- names and constants
theorem Ex.loc {sc : Scope} {x : Str} {pos : Pos} {v : Value} {R : Value → Led → Prop} (hs : G.sc = sc) (hv : (x, v) ∈ ρ) (hk : sc.names.lookup x = some .local) (hd : (x == ("__debug__" : Str)) = false) (h : R v led) : Ex G (.Name x pos) ρ led R :=
  fun ok _ s _ _ I k _ => have ⟨_, F, hm⟩ := I.F
    nameX_L F (hm.2 _ hv) (k v led s.heap s.toks I h) ok.f (by subst hs; exact hk) hd
theorem Ex.glo {sc : Scope} {x : Str} {pos : Pos} {v : Value} {R : Value → Led → Prop} (hs : G.sc = sc) (e : nsIn (KF G.w.params) mainGlobals x = some (some v)) (hk : sc.names.lookup x = some .globalImplicit) (hd : (x == ("__debug__" : Str)) = false) (h : R v led) : Ex G (.Name x pos) ρ led R :=
  fun ok _ s _ _ I k _ => have ⟨_, F, _⟩ := I.F
    have ⟨_, _, _, _, _, T⟩ := ok.T
    nameX_K F ok.K (topRead_of T) e (k v led s.heap s.toks I h) ok.f (by subst hs; exact hk) hd
theorem Ex.locX {sc : Scope} {x : Str} {pos : Pos} {v : Value} {R : Value → Led → Prop} (hs : G.sc = sc) (hv : (x, v) ∈ ρ) (hn : locN sc x = true) (h : R v led) : Ex G (.Name x pos) ρ led R := .loc hs hv (locN.to hn).1 (locN.to hn).2 h
theorem Ex.gloX {sc : Scope} {x : Str} {pos : Pos} {v : Value} {R : Value → Led → Prop} (hs : G.sc = sc) (e : nsIn (KF G.w.params) mainGlobals x = some (some v)) (hn : gloN sc x = true) (h : R v led) : Ex G (.Name x pos) ρ led R := .glo hs e (gloN.to hn).1 (gloN.to hn).2 h
theorem Ex.blt {sc : Scope} {x : Str} {pos : Pos} {v : Value} {R : Value → Led → Prop} (hs : G.sc = sc) (e : nsIn (KF G.w.params) mainGlobals x = some none) (hv : bootBuiltins x = some v) (hn : x ≠ "__name__") (hk : sc.names.lookup x = some .globalImplicit) (hd : (x == ("__debug__" : Str)) = false) (h : R v led) : Ex G (.Name x pos) ρ led R :=
  fun ok _ s _ _ I k _ => have ⟨_, F, _⟩ := I.F
    have ⟨_, _, _, _, _, T⟩ := ok.T
    nameX_B F ok.K (topRead_of T) e hv hn (k v led s.heap s.toks I h) ok.f (by subst hs; exact hk) hd
theorem Ex.none {n : Nat} {pos : Pos} {R : Value → Led → Prop} (h : R .none led) : Ex G (.Constant .none n pos) ρ led R := fun _ _ s _ _ I k _ => wpAny_Constant_none (k _ led s.heap s.toks I h)
theorem Ex.bool {b : Bool} {n : Nat} {pos : Pos} {R : Value → Led → Prop} (h : R (.bool b) led) : Ex G (.Constant (.bool b) n pos) ρ led R := fun _ _ s _ _ I k _ => Constant_bool (k _ led s.heap s.toks I h)
theorem Ex.int {i : Int} {n : Nat} {pos : Pos} {R : Value → Led → Prop} (h : ∀ t, R (.int i t) led) : Ex G (.Constant (.int i) n pos) ρ led R := fun _ _ s _ _ I k _ => wpAny_Constant_int (k _ led s.heap _ I (h _))
theorem Ex.str {x : Str} {n : Nat} {pos : Pos} {R : Value → Led → Prop} (h : ∀ t, R (.str x t) led) : Ex G (.Constant (.str x) n pos) ρ led R := fun _ _ s _ _ I k _ => Constant_str (k _ led s.heap _ I (h _))
-- lists of expressions
theorem Exs.nil {R : List Value → Led → Prop} (h : R [] led) : Exs G [] ρ led R := fun _ _ _ s _ _ I k _ => spliced_none (k _ led s.heap s.toks I ⟨rfl, h⟩)
/-- an argument is not starred -/
def plainE : PySem.Expr → Bool
  | .Starred .. => false
  | _ => true
theorem starEach_plain {e : PySem.Expr} {rest : List PySem.Expr} {env : Env} (h : plainE e = true) : starEach (e :: rest) env = (false, eval e env) :: starEach rest env := by
  cases e <;> first | rfl | cases h
theorem Exs.cons {e : PySem.Expr} {es : List PySem.Expr} {R : List Value → Led → Prop} (hp : plainE e = true) (h : Ex G e ρ led (exsK G es ρ R)) : Exs G (e :: es) ρ led R :=
  fun pos ok Φ s _ _ I k x => spliced_more (h ok Φ s _ _ I (fun _ _ _ _ I1 h1 => h1 pos ok Φ _ _ _ I1 (fun vs led2 h2 t2 I2 q => k (_ :: vs) led2 h2 t2 I2 ⟨congrArg (· + 1) q.1, q.2⟩) x) x) (starEach_plain hp)
end
end
section
open PySem PySem.W PyProof.Rows PySem.Calls PySem.Spec
@[reducible] def retOf : Flow → Value
  | .ret v => v
  | _ => .none
def lenE (es : List PySem.Expr) : Nat := es.length

/-- the callee's standing -/
abbrev Gx.callee (G : Gx) (A : Around) (k : Nat) (qual : Str) (scope : Scope) (L' f : Addr) (cdv : Value) (g : Heap) : Gx :=
  ⟨G.w, A.depth + 1, A.units + 3, k, A.guards, qual, scope, L', f, cdv, [], G.env :: G.outer, G.base, g, G.ex, G.src, fun _ => True⟩

theorem body_in {G : Gx} {A : Around} {k : Nat} {Φ led : Led} {ρ : Rho} {s : Shared} {E : Value → Shared → Prop} {R : Result → Shared → Prop} {Rb : Value → Led → Prop} {name qual : Str} {params : Arguments} {body : List Stmt} {scope : Scope} {dV kV doc pm cdv ct oc : Value} {an od : Option Addr} {osl : Array (Option Value)} {f : Addr} {args : Args} {binds : List (Str × Value)}
    (ok : G.Ok) (I : Inv G Φ ρ led s.heap) (x : Exc G Φ s E) (hA : A.frames = some (G.env :: G.outer)) (hH : A.handled = none) (hd : A.depth + 1 + k < 1000) (hu : A.units + 3 + 8 * k < 9900)
    (ho : (KF G.w.params).lookup f = some ⟨oc, od, .func (fnOf name qual params body scope dV kV doc pm an cdv ct), osl⟩) (hcd : codeIn (KF G.w.params) cdv qual = true)
    (hbind : BindsTo s (fnOf name qual params body scope dV kV doc pm an cdv ct) args binds) (hloc : (binds.all fun y => decide (scope.names.lookup y.1 = some .local)) = true) (hnd : (binds.map (·.1)).Nodup)
    (hco : scope.isCoroutine = false) (hgen : scope.isGenerator = false) (hk : scope.kind = .function) (hcell : (scope.names.all fun y => y.2 != .cell) = true)
    (hb : ∀ G' : Gx, G'.w = G.w → G'.sc = scope → G'.k = k → G'.src = G.src → G'.ex = G.ex → G'.base = G.base → Ss G' body binds led fun fl _ led' => Rb (retOf fl) led')
    (kr : ∀ v led' h' tk', Inv G Φ ρ led' h' → Rb v led' → R (.ok (.ret v)) { s with heap := h', toks := tk' }) (ke : ∀ e s', E e s' → R (.error e) s') :
    codeAny (model prog G.w) A (.call (.ref f) args) R s := by
  obtain ⟨m, F, hm⟩ := I.F
  obtain ⟨sl, hsl, N, D⟩ := I.N
  obtain ⟨A₀, B⟩ := ok.B
  obtain ⟨p, loose, mean, mg, mb, T⟩ := ok.T
  refine code_def B F ok.K N T hA rfl ok.f ho hcd (Nat.lt_of_le_of_lt (Nat.le_trans (Nat.le_add_right _ 1) (Nat.le_add_right _ k)) hd) hbind (locs hloc) (fun g L' h₁ FG F' N' B' X' T' => ?_) hco hgen hk (fun y hy => by simpa using List.all_eq_true.mp hcell y hy)
  have hAA : A.deeper (envOf qual scope L' f cdv) = (G.callee A k qual scope L' f cdv g).A := by
    obtain ⟨a1, a2, a3, a4, a5⟩ := A
    have e1 : a1 = none := hH
    have e3 : a3 = some (G.env :: G.outer) := hA
    subst e1
    subst e3
    rfl
  have fin : wpAny (model prog G.w) (G.callee A k qual scope L' f cdv g).A (execs body (G.callee A k qual scope L' f cdv g).env) (fun fl s' => LeaveK G.g G.L m g R (match fl with | .ret v => v | _ => .none) s')
      (fun e s' => wpAny (model prog G.w) (G.callee A k qual scope L' f cdv g).A (leaving (G.callee A k qual scope L' f cdv g).env e) (fun _ s'' => R (.error e) s'') (fun e' s'' => R (.error e') s'') s') { s with heap := h₁, toks := s.toks + binds.length } := by
    refine hb (G.callee A k qual scope L' f cdv g) rfl rfl rfl rfl rfl rfl ⟨⟨A, B'⟩, X', ⟨p, loose, mean, mg, mb, T'⟩, hk, hd, hu⟩ Φ _ _ _ ⟨⟨_, F', trivial, fun q hq => ?_⟩, sl, hsl, N', D⟩ (fun fl ρ' led' h' tk' I' r => ?_) ⟨⟨PassesOwn.leaving, fun _ => trivial⟩, fun all0 hex => ⟨fun e g' m' h' tk' F2 R2 => ?_, fun e dx a0 sl2 od m' news h' tk' F2 N2 me md hmsg hl => ?_⟩⟩
    · show binds.reverse.lookup q.1 = some q.2
      have hr : (binds.reverse.map (·.1)).Nodup := by rw [List.map_reverse]; exact (List.reverse_perm _).nodup_iff.mpr hnd
      have hq' : q ∈ binds.reverse := List.mem_reverse.mpr hq
      revert hr hq'
      generalize binds.reverse = l
      intro hr hq'
      induction l with
      | nil => cases hq'
      | cons z l ih =>
        rw [List.map_cons, List.nodup_cons] at hr
        rcases List.mem_cons.mp hq' with rfl | h
        · exact List.lookup_cons_self
        · have hne : (q.1 == z.1) = false := by
            refine beq_eq_false_iff_ne.mpr fun c => hr.1 ?_
            rw [← c]; exact List.mem_map_of_mem h
          rw [List.lookup_cons, hne]; exact ih hr.2 h
    · obtain ⟨m2, F2, _⟩ := I'.F
      obtain ⟨sl2, hsl2, N2, D2⟩ := I'.N
      cases fl <;> exact ⟨_, m2, _, F2, N2, fun Fc Nc => kr _ led' h' tk' ⟨⟨m, Fc, hm⟩, sl2, hsl2, Nc, D2⟩ r⟩
    · rw [← hAA]
      exact err_on B' F2 R2 fun h'' R3 => ke _ _ ((x all0 hex).1 e g m h'' tk' FG R3)
    · rw [← hAA]
      exact err_first B' F2 N2 me md rfl rfl rfl rfl hmsg hl (fun h'' R3 => ke _ _ ((x all0 hex).1 e g m h'' tk' FG R3)) hk
  rw [← hAA] at fin
  exact fin
end
section
open PySem PySem.W PyProof.Rows PySem.Calls PySem.Spec
-- the ledger's changes
inductive At (d : Addr) (o o' : Obj) : Led → Led → Prop
  | head {r} : At d o o' ((d, o) :: r) ((d, o') :: r)
  | tail {p r r'} : At d o o' r r' → At d o o' (p :: r) (p :: r')
  | app {t r r'} : At d o o' r r' → At d o o' (t ++ r) (t ++ r')
theorem At.split {d : Addr} {o o' : Obj} {l l' : Led} (h : At d o o' l l') : ∃ pre post, l = pre ++ (d, o) :: post ∧ l' = pre ++ (d, o') :: post := by
  induction h with
  | head => exact ⟨[], _, rfl, rfl⟩
  | tail _ ih => obtain ⟨a, b, c, e⟩ := ih; exact ⟨_ :: a, b, by rw [c]; rfl, by rw [e]; rfl⟩
  | app _ ih => obtain ⟨a, b, c, e⟩ := ih; exact ⟨_ ++ a, b, by rw [c, List.append_assoc], by rw [e, List.append_assoc]⟩
theorem updOf {d : Addr} {o o' : Obj} : ∀ (pre post : Led), ((pre ++ (d, o) :: post).map (·.1)).Nodup → Upd d o o' (pre ++ (d, o) :: post) (pre ++ (d, o') :: post)
  | [], post, h => .head fun p hp e => (List.nodup_cons.mp h).1 (List.mem_map.mpr ⟨p, hp, e⟩)
  | z :: pre, post, h => .tail (fun e => (List.nodup_cons.mp h).1 (List.mem_map.mpr ⟨(d, o), List.mem_append_right _ (.head _), e.symm⟩)) (updOf pre post (List.nodup_cons.mp h).2)
theorem At.upd {d : Addr} {o o' : Obj} {l l' r : Led} (h : At d o o' l l') (n : ((l ++ r).map (·.1)).Nodup) : Upd d o o' (l ++ r) (l' ++ r) ∧ ((l' ++ r).map (·.1)).Nodup := by
  obtain ⟨a, b, rfl, rfl⟩ := h.split
  rw [List.append_assoc, List.cons_append] at n ⊢
  rw [List.append_assoc, List.cons_append]
  refine ⟨updOf a (b ++ r) n, ?_⟩
  rw [List.map_append, List.map_cons] at n ⊢
  exact n
section
variable {G : Gx} {ρ : Rho} {led : Led} {Φ : Led} {h : Heap}
theorem Inv.list (I : Inv G Φ ρ led h) {a : Addr} {vs : List Value} {n : Nat} (m : (a, listOf vs.toArray n) ∈ led) : h.IsList a vs.toArray :=
  have ⟨_, _, N, _⟩ := I.N
  N.isList (List.mem_append_left _ m)
theorem nodup_cons {D : Addr} {o : Obj} {l : Led} (hl : ∀ p ∈ l, p.1 < D) (n : (l.map (·.1)).Nodup) : (((D, o) :: l).map (·.1)).Nodup :=
  List.nodup_cons.mpr ⟨fun c => by obtain ⟨p, hp, e⟩ := List.mem_map.mp c; exact absurd (e ▸ hl p hp) (Nat.lt_irrefl _), n⟩
-- what is made anew
@[reducible] def tupK (R : Value → Led → Prop) : List Value → Led → Prop := fun vs led => ∀ a, R (.ref a) ((a, tupO vs) :: led)
@[reducible] def lstK (R : Value → Led → Prop) : List Value → Led → Prop := fun vs led => ∀ a, R (.ref a) ((a, listOf vs.toArray 0) :: led)
@[reducible] def caK (G : Gx) (f : Value) (ρ : Rho) (R : Value → Led → Prop) : List Value → Led → Prop := fun vs led => Ca G f vs ρ led R
theorem Ex.tup {es : List PySem.Expr} {n : Nat} {pos : Pos} {R : Value → Led → Prop} (hz : Nat.ble es.length 1000 = true) (h : Exs G es ρ led (tupK R)) : Ex G (.Tuple es n pos) ρ led R :=
  fun ok Φ s _ E I k x => Tuple_ (h pos ok Φ s _ E I (fun vs led1 h1 t1 I1 q =>
    have ⟨_, F, hm⟩ := I1.F
    have ⟨sl, hsl, N, D⟩ := I1.N
    kup_newTuple F N (fun a h' F' N' l => k (.ref a) ((a, tupO vs) :: led1) h' t1 ⟨⟨_, F', hm⟩, sl, hsl, N', nodup_cons l D⟩ (q.2 a)) (by rw [sizeLine_eq, q.1]; exact Nat.le_trans (Nat.le_of_ble_eq_true hz) (by decide))) x)
theorem Ex.lst {es : List PySem.Expr} {pos : Pos} {R : Value → Led → Prop} (hz : Nat.ble es.length 1000 = true) (h : Exs G es ρ led (lstK R)) : Ex G (.List es pos) ρ led R :=
  fun ok Φ s _ E I k x => List_ (h pos ok Φ s _ E I (fun vs led1 h1 t1 I1 q =>
    have ⟨_, F, hm⟩ := I1.F
    have ⟨sl, hsl, N, D⟩ := I1.N
    newList_K F N (fun a h' F' N' l => k (.ref a) ((a, listOf vs.toArray 0) :: led1) h' t1 ⟨⟨_, F', hm⟩, sl, hsl, N', nodup_cons l D⟩ (q.2 a)) (by rw [sizeLine_eq, q.1]; exact Nat.le_trans (Nat.le_of_ble_eq_true hz) (by decide))) x)

-- calls
def Cw (G : Gx) (f : Value) (first : List Value) (args : List PySem.Expr) (ρ : Rho) (led : Led) (R : Value → Led → Prop) : Prop := ∀ pos, Tv G (callWith pos f first (backTo pos (starEach args G.env)) []) ρ led R
def plainEs (es : List PySem.Expr) : Bool := es.all plainE
theorem star_plain {pos : Pos} {env : Env} : ∀ {es : List PySem.Expr}, plainEs es = true → ((backTo pos (starEach es env)).any fun x => x.fst) = false
  | [], _ => rfl
  | e :: es, h => by
    obtain ⟨h1, h2⟩ := Bool.and_eq_true_iff.mp h
    rw [starEach_plain h1]
    have := star_plain (pos := pos) (env := env) h2
    simpa [backTo] using this
theorem Cw.fn {f : Addr} {first : List Value} {e : PySem.Expr} {es : List PySem.Expr} {R : Value → Led → Prop} (hf : keepIn (KF G.w.params) (.ref f) = true) (hp : plainEs (e :: es) = true) (h : Exs G (e :: es) ρ led fun vs led1 => Ca G (.ref f) (first ++ vs) ρ led1 R) : Cw G (.ref f) first (e :: es) ρ led R :=
  fun pos ok Φ s _ E I k x => callWith_K ok.K hf (h pos ok Φ s _ E I (fun vs led1 h1 t1 I1 q => have ⟨_, F, _⟩ := I1.F; ⟨ok.K.keeps F.keep, q.2 ok Φ _ _ E I1 k x⟩) x) (starEach_plain (Bool.and_eq_true_iff.mp hp).1) (star_plain (Bool.and_eq_true_iff.mp hp).2)
theorem Cw.fn0 {f : Addr} {first : List Value} {R : Value → Led → Prop} (hf : keepIn (KF G.w.params) (.ref f) = true) (h : Ca G (.ref f) (first ++ []) ρ led R) : Cw G (.ref f) first [] ρ led R :=
  fun pos ok Φ s _ E I k x => have ⟨_, F, _⟩ := I.F; callWith_K0 (ok.K.keeps F.keep) hf (h ok Φ s _ E I k x)
theorem Cw.bi {id : String} {first : List Value} {e : PySem.Expr} {es : List PySem.Expr} {R : Value → Led → Prop} (hp : plainEs (e :: es) = true) (h : Exs G (e :: es) ρ led fun vs led1 => Ca G (.builtin id) (first ++ vs) ρ led1 R) : Cw G (.builtin id) first (e :: es) ρ led R :=
  fun pos ok Φ s _ E I k x => callWith_method1 (h pos ok Φ s _ E I (fun vs led1 h1 t1 I1 q => q.2 ok Φ _ _ E I1 k x) x) (starEach_plain (Bool.and_eq_true_iff.mp hp).1) (star_plain (Bool.and_eq_true_iff.mp hp).2)
theorem Cw.bi0 {id : String} {first : List Value} {R : Value → Led → Prop} (h : Ca G (.builtin id) first ρ led R) : Cw G (.builtin id) first [] ρ led R :=
  fun pos ok Φ s _ E I k x => callWith_method0 (h ok Φ s _ E I k x)
theorem Cw.ty {T : String} {e : PySem.Expr} {es : List PySem.Expr} {R : Value → Led → Prop} (hp : plainEs (e :: es) = true) (h : Exs G (e :: es) ρ led (caK G (.type T) ρ R)) : Cw G (.type T) [] (e :: es) ρ led R :=
  fun pos ok Φ s _ E I k x => callWith_type1 (h pos ok Φ s _ E I (fun vs led1 h1 t1 I1 q => q.2 ok Φ _ _ E I1 k x) x) (starEach_plain (Bool.and_eq_true_iff.mp hp).1) (star_plain (Bool.and_eq_true_iff.mp hp).2)
/-- a call of a name -/
@[reducible] def cwK (G : Gx) (args : List PySem.Expr) (ρ : Rho) (R : Value → Led → Prop) : Value → Led → Prop := fun f led => Cw G f [] args ρ led R
theorem Ex.call {n : Str} {np pos : Pos} {args : List PySem.Expr} {R : Value → Led → Prop} (h : Ex G (.Name n np) ρ led (cwK G args ρ R)) : Ex G (.Call (.Name n np) args [] pos) ρ led R :=
  fun ok Φ s _ E I k x => Call_ (h ok Φ s _ E I (fun f led1 h1 t1 I1 q => q pos ok Φ _ _ E I1 k x) x) rfl
/-- a call of a def or class of the text -/
theorem Ex.callF {sc : Scope} {n : Str} {np pos : Pos} {f : Addr} {e : PySem.Expr} {es : List PySem.Expr} {R : Value → Led → Prop} (hs : G.sc = sc) (hg : nsIn (KF G.w.params) mainGlobals n = some (some (.ref f))) (hf : keepIn (KF G.w.params) (.ref f) = true) (hk : sc.names.lookup n = some .globalImplicit) (hd : (n == ("__debug__" : Str)) = false)
    (hp : plainEs (e :: es) = true) (h : Exs G (e :: es) ρ led (caK G (.ref f) ρ R)) : Ex G (.Call (.Name n np) (e :: es) [] pos) ρ led R :=
  .call fun ok Φ s Q E I k x => have ⟨_, F, _⟩ := I.F
    have ⟨_, _, _, _, _, T⟩ := ok.T
    nameX_K F ok.K (topRead_of T) hg (k (.ref f) led s.heap s.toks I (Cw.fn hf hp h)) ok.f (by subst hs; exact hk) hd
theorem Ex.callFX {sc : Scope} {n : Str} {np pos : Pos} {f : Addr} {e : PySem.Expr} {es : List PySem.Expr} {R : Value → Led → Prop} (hs : G.sc = sc) (hg : nsIn (KF G.w.params) mainGlobals n = some (some (.ref f))) (hf : keepIn (KF G.w.params) (.ref f) = true) (hn : (gloN sc n && plainEs (e :: es)) = true) (h : Exs G (e :: es) ρ led (caK G (.ref f) ρ R)) : Ex G (.Call (.Name n np) (e :: es) [] pos) ρ led R :=
  have hn := Bool.and_eq_true_iff.mp hn
  .callF hs hg hf (gloN.to hn.1).1 (gloN.to hn.1).2 hn.2 h
-- operators
@[reducible] def biK (G : Gx) (op : Operator) (ρ : Rho) (R : Value → Led → Prop) (a : Value) : Value → Led → Prop := fun b led => Bi G op a b ρ led R
@[reducible] def binK (G : Gx) (r : PySem.Expr) (op : Operator) (ρ : Rho) (R : Value → Led → Prop) : Value → Led → Prop := fun a led => Ex G r ρ led (biK G op ρ R a)
@[reducible] def gaK (G : Gx) (x : Str) (ρ : Rho) (R : Value → Led → Prop) : Value → Led → Prop := fun o led => Ga G o x ρ led R
theorem Ex.bin {l r : PySem.Expr} {op : Operator} {pos : Pos} {R : Value → Led → Prop} (h : Ex G l ρ led (binK G r op ρ R)) : Ex G (.BinOp l op r pos) ρ led R :=
  fun ok Φ s _ E I k x => wpAny_BinOp (h ok Φ s _ E I (fun a led1 h1 t1 I1 q => q ok Φ _ _ E I1 (fun b led2 h2 t2 I2 q => q ok Φ _ _ E I2 k x) x) x)
theorem Ex.attr {n x : Str} {np pos : Pos} {R : Value → Led → Prop} (h : Ex G (.Name n np) ρ led (gaK G x ρ R)) : Ex G (.Attribute (.Name n np) x pos) ρ led R :=
  fun ok Φ s _ E I k x => Attribute_name (h ok Φ s _ E I (fun a led1 h1 t1 I1 q => q true ok Φ _ _ E I1 k x) x)
def Sb (G : Gx) (value slice : PySem.Expr) (o i : Value) (ρ : Rho) (led : Led) (R : Value → Led → Prop) : Prop := Tv G (subscriptTail value slice o i) ρ led R
@[reducible] def sbK (G : Gx) (v i : PySem.Expr) (ρ : Rho) (R : Value → Led → Prop) (o : Value) : Value → Led → Prop := fun j led => Sb G v i o j ρ led R
@[reducible] def subK (G : Gx) (v i : PySem.Expr) (ρ : Rho) (R : Value → Led → Prop) : Value → Led → Prop := fun o led => Ex G i ρ led (sbK G v i ρ R o)
@[reducible] def ifK (G : Gx) (a b : PySem.Expr) (ρ : Rho) (R : Value → Led → Prop) : Bool → Led → Prop := fun c led => match c with | true => Ex G a ρ led R | false => Ex G b ρ led R
theorem Ex.sub {v i : PySem.Expr} {pos : Pos} {R : Value → Led → Prop} (h : Ex G v ρ led (subK G v i ρ R)) : Ex G (.Subscript v i pos) ρ led R :=
  fun ok Φ s _ E I k x => Subscript_ (h ok Φ s _ E I (fun a led1 h1 t1 I1 q => q ok Φ _ _ E I1 (fun b led2 h2 t2 I2 q => q ok Φ _ _ E I2 k x) x) x)
theorem Ex.ifexp {t a b : PySem.Expr} {pos : Pos} {R : Value → Led → Prop} (h : Te G t ρ led (ifK G a b ρ R)) : Ex G (.IfExp t a b pos) ρ led R :=
  fun ok Φ s _ E I k x => IfExp_ (h ok Φ s _ E I (fun c led1 h1 t1 I1 q => match c, q with
    | true, q => (if_pos rfl).mpr (q ok Φ _ _ E I1 k x)
    | false, q => (if_neg Bool.false_ne_true).mpr (q ok Φ _ _ E I1 k x)) x)
end
end
section
open PySem PySem.W PyProof.Rows PySem.Calls PySem.Spec
/-- behind a statement: the rest of its suite -/
abbrev nxt (G : Gx) (rest : List Stmt) (R : Flow → Rho → Led → Prop) : Flow → Rho → Led → Prop := fun fl ρ led => match fl with
  | .next => Ss G rest ρ led R
  | fl => R fl ρ led
def hasKey (x : Str) (ρ : Rho) : Bool := ρ.any fun p => p.1 == x
/-- ρ without x -/
inductive Drop (x : Str) : Rho → Rho → Prop
  | head {v r} : Drop x ((x, v) :: r) r
  | tail {p r r'} : Drop x r r' → Drop x (p :: r) (p :: r')
theorem Drop.sub {x : Str} {ρ ρ' : Rho} (h : Drop x ρ ρ') : ∀ p ∈ ρ', p ∈ ρ := by
  induction h with
  | head => exact fun p h => .tail _ h
  | tail _ ih => exact fun p h => (List.mem_cons.mp h).elim (fun e => e ▸ .head _) fun h => .tail _ (ih p h)
theorem noKey {x : Str} {ρ : Rho} (h : hasKey x ρ = false) : ∀ p ∈ ρ, p.1 ≠ x := fun p hp e => by
  have : hasKey x ρ = true := List.any_eq_true.mpr ⟨p, hp, beq_iff_eq.mpr e⟩
  rw [h] at this; cases this
section
variable {G : Gx} {ρ : Rho} {led : Led}
theorem Ss.nil {R : Flow → Rho → Led → Prop} (h : R .next ρ led) : Ss G [] ρ led R := fun ok Φ s _ E I k x => wpAny_execs_nil (k _ ρ led s.heap s.toks I h)
theorem Ss.cons {t : Stmt} {l : List Stmt} {R : Flow → Rho → Led → Prop} (h : St G t ρ led (nxt G l R)) : Ss G (t :: l) ρ led R :=
  fun ok Φ s _ E I k x => wpAny_execs_cons (h ok Φ s _ E I (fun fl ρ1 led1 h1 t1 I1 q => match fl, q with
    | .next, q => q ok Φ _ _ E I1 k x
    | .ret v, q => k _ _ _ _ _ I1 q
    | .brk, q => k _ _ _ _ _ I1 q
    | .cont, q => k _ _ _ _ _ I1 q) x)
theorem St.ret {e : PySem.Expr} {pos : Pos} {R : Flow → Rho → Led → Prop} (h : Ex G e ρ led fun v led1 => R (.ret v) ρ led1) : St G (.Return (some e) pos) ρ led R :=
  fun ok Φ s _ E I k x => wpAny_Return_some (h ok Φ s _ E I (fun v led1 h1 t1 I1 q => k _ _ _ _ _ I1 q) x.2)
/-- nothing is swapped -/
def calmE (e : PySem.Expr) (t : Option PySem.Expr) (line : Nat) : Prop := ∀ env, swapsWith e t line env = pure false
theorem St.expr {e : PySem.Expr} {pos : Pos} {R : Flow → Rho → Led → Prop} (hw : ∀ env, swapsWith e none pos.line env = pure false) (h : Ex G e ρ led fun _ led1 => R .next ρ led1) : St G (.Expr e pos) ρ led R :=
  fun ok Φ s _ E I k x => wpAny_Expr_any (h ok Φ s _ E I (fun v led1 h1 t1 I1 q => k _ _ _ _ _ I1 q) x.2) (by unfold interactive; simp [Env.blockKind, ok.f]) (hw _)
/-- x is bound -/
theorem Tr.store {x : Str} {v : Value} {ρ' : Rho} {sc : Scope} (hs : G.sc = sc) (hk : sc.names.lookup x = some .local) (hsub : ∀ p ∈ ρ', p ∈ ρ) (hx : hasKey x ρ' = false) {R : Unit → Rho → Led → Prop} (h : R () ((x, v) :: ρ') led) : Tr G (storeName G.env x v) ρ led R :=
  fun ok Φ s _ E I k z => have ⟨m, F, hm⟩ := I.F
    have ⟨sl, hsl, N, D⟩ := I.N
    storeX_L F N (fun h' F' N' => k () _ led h' _ ⟨⟨_, F', z.1.2 _, fun p hp => by
      rcases List.mem_cons.mp hp with rfl | hp
      · simp
      · rw [if_neg (noKey hx p hp)]; exact hm.2 p (hsub p hp)⟩, sl, hsl, N', D⟩ h) ok.f (by subst hs; exact hk)
theorem St.asg {x : Str} {e : PySem.Expr} {px pos : Pos} {sc : Scope} {R : Flow → Rho → Led → Prop} (hs : G.sc = sc) (hk : sc.names.lookup x = some .local) (hw : ∀ env, swapsWith e (some (.Name x px)) pos.line env = pure false) (hx : hasKey x ρ = false) (h : Ex G e ρ led fun v led1 => R .next ((x, v) :: ρ) led1) : St G (.Assign [.Name x px] e pos) ρ led R :=
  fun ok Φ s _ E I k y => wpAny_Assign_Name (h ok Φ s _ E I (fun v led1 h1 t1 I1 q => Tr.store (R := fun _ ρ' led' => R .next ρ' led') hs hk (fun _ h => h) hx q ok Φ _ _ E I1 (fun _ => k _) y) y.2) (hw _)
theorem St.asgU {x : Str} {e : PySem.Expr} {px pos : Pos} {sc : Scope} {ρ' : Rho} {R : Flow → Rho → Led → Prop} (hs : G.sc = sc) (hk : sc.names.lookup x = some .local) (hw : ∀ env, swapsWith e (some (.Name x px)) pos.line env = pure false) (hdr : Drop x ρ ρ') (hx : hasKey x ρ' = false) (h : Ex G e ρ led fun v led1 => R .next ((x, v) :: ρ') led1) : St G (.Assign [.Name x px] e pos) ρ led R :=
  fun ok Φ s _ E I k y => wpAny_Assign_Name (h ok Φ s _ E I (fun v led1 h1 t1 I1 q => Tr.store (R := fun _ ρ' led' => R .next ρ' led') hs hk hdr.sub hx q ok Φ _ _ E I1 (fun _ => k _) y) y.2) (hw _)
theorem St.ite {t : PySem.Expr} {a b : List Stmt} {pos : Pos} {R : Flow → Rho → Led → Prop} (h : Te G t ρ led fun c led1 => match c with | true => Ss G a ρ led1 R | false => Ss G b ρ led1 R) : St G (.If t a b pos) ρ led R :=
  fun ok Φ s _ E I k x => wpAny_If (h ok Φ s _ E I (fun c led1 h1 t1 I1 q => match c, q with
    | true, q => (if_pos rfl).mpr (q ok Φ _ _ E I1 k x)
    | false, q => (if_neg Bool.false_ne_true).mpr (q ok Φ _ _ E I1 k x)) x.2)
-- tests
@[reducible] def cmK (G : Gx) (op : CmpOp) (ρ : Rho) (R : Bool → Led → Prop) (a : Value) : Value → Led → Prop := fun b led => Cm G op a b ρ led R
@[reducible] def cmpK (G : Gx) (r : PySem.Expr) (op : CmpOp) (ρ : Rho) (R : Bool → Led → Prop) : Value → Led → Prop := fun a led => Ex G r ρ led (cmK G op ρ R a)
@[reducible] def boolK (R : Bool → Led → Prop) : Value → Led → Prop := fun v led => ∃ b, v = .bool b ∧ R b led
@[reducible] def andK (G : Gx) (es : List PySem.Expr) (pos : Pos) (ρ : Rho) (R : Bool → Led → Prop) : Bool → Led → Prop := fun c led => match c with | true => ∀ whole, Tv G (isTrue (.BoolOp .And es pos) G.env whole) ρ led R | false => R false led
@[reducible] def orK (G : Gx) (es : List PySem.Expr) (pos : Pos) (ρ : Rho) (R : Bool → Led → Prop) : Bool → Led → Prop := fun c led => match c with | true => R true led | false => ∀ whole, Tv G (isTrue (.BoolOp .Or es pos) G.env whole) ρ led R
theorem Te.cmp {l r : PySem.Expr} {op : CmpOp} {pos : Pos} {R : Bool → Led → Prop} (hm : behindInMarks op r = false) (h : Ex G l ρ led (cmpK G r op ρ R)) : Te G (.Compare l [op] [r] pos) ρ led R :=
  fun ok Φ s _ E I k x => wpAny_isTrue_Compare1 (h ok Φ s _ E I (fun a led1 h1 t1 I1 q => q ok Φ _ _ E I1 (fun b led2 h2 t2 I2 q => q ok Φ _ _ E I2 (fun c led3 h3 t3 I3 ⟨b, e, q⟩ => by subst e; exact wpAny_truthy_bool (k b led3 h3 t3 I3 q)) x) x) x) hm
theorem Te.not {e : PySem.Expr} {pos : Pos} {R : Bool → Led → Prop} (h : Te G e ρ led fun c led1 => R (!c) led1) : Te G (.UnaryOp .Not e pos) ρ led R :=
  fun ok Φ s _ E I k x => isTrue_not (h ok Φ s _ E I (fun c led1 h1 t1 I1 q => k _ _ _ _ I1 q) x)
theorem Te.plain {e : PySem.Expr} {R : Bool → Led → Prop} (ht : ∀ env whole, isTrue e env whole = (do let v ← whole; standAt e.pos; holding [v] (truthy v))) (h : Ex G e ρ led (boolK R)) : Te G e ρ led R :=
  fun ok Φ s _ E I k x => isTrue_plain (h ok Φ s _ E I (fun c led3 h3 t3 I3 ⟨b, e, q⟩ => by subst e; exact wpAny_truthy_bool (k b led3 h3 t3 I3 q)) x) (ht _ _)
theorem Te.and {e : PySem.Expr} {es : List PySem.Expr} {pos : Pos} {R : Bool → Led → Prop} (h : Te G e ρ led (andK G es pos ρ R)) {whole : Sem Value} : Tv G (isTrue (.BoolOp .And (e :: es) pos) G.env whole) ρ led R :=
  fun ok Φ s _ E I k x => isTrue_and (h ok Φ s _ E I (fun c led1 h1 t1 I1 q => match c, q with
    | true, q => (if_pos rfl).mpr (q whole ok Φ _ _ E I1 k x)
    | false, q => (if_neg Bool.false_ne_true).mpr (k _ _ _ _ I1 q)) x)
theorem Te.and0 {pos : Pos} {R : Bool → Led → Prop} (h : R true led) {whole : Sem Value} : Tv G (isTrue (.BoolOp .And [] pos) G.env whole) ρ led R := fun ok Φ s _ E I k x => isTrue_and_nil (k _ led s.heap s.toks I h)
theorem Te.or {e : PySem.Expr} {es : List PySem.Expr} {pos : Pos} {R : Bool → Led → Prop} (h : Te G e ρ led (orK G es pos ρ R)) {whole : Sem Value} : Tv G (isTrue (.BoolOp .Or (e :: es) pos) G.env whole) ρ led R :=
  fun ok Φ s _ E I k x => isTrue_or (h ok Φ s _ E I (fun c led1 h1 t1 I1 q => match c, q with
    | true, q => (if_pos rfl).mpr (k _ _ _ _ I1 q)
    | false, q => (if_neg Bool.false_ne_true).mpr (q whole ok Φ _ _ E I1 k x)) x)
theorem Te.or0 {pos : Pos} {R : Bool → Led → Prop} (h : R false led) {whole : Sem Value} : Tv G (isTrue (.BoolOp .Or [] pos) G.env whole) ρ led R := fun ok Φ s _ E I k x => isTrue_or_nil (k _ led s.heap s.toks I h)
theorem Te.ands {es : List PySem.Expr} {pos : Pos} {R : Bool → Led → Prop} (h : ∀ whole, Tv G (isTrue (.BoolOp .And es pos) G.env whole) ρ led R) : Te G (.BoolOp .And es pos) ρ led R := h _
theorem Te.ors {es : List PySem.Expr} {pos : Pos} {R : Bool → Led → Prop} (h : ∀ whole, Tv G (isTrue (.BoolOp .Or es pos) G.env whole) ρ led R) : Te G (.BoolOp .Or es pos) ρ led R := h _
-- comparisons
theorem Cm.eqI {a b : Int} {t u : Tok} {c : Bool} {R : Bool → Led → Prop} (hc : (a == b) = c) (h : R c led) : Cm G .Eq (.int a t) (.int b u) ρ led R := fun ok Φ s _ E I k x => eq_int (k _ led s.heap s.toks I ⟨c, congrArg Value.bool hc, h⟩)
theorem Cm.eqS {a b : Str} {t u : Tok} {c : Bool} {R : Bool → Led → Prop} (hc : (a == b) = c) (h : R c led) : Cm G .Eq (.str a t) (.str b u) ρ led R := fun ok Φ s _ E I k x => eq_str (k _ led s.heap s.toks I ⟨c, congrArg Value.bool hc, h⟩)
theorem Cm.ltI {a b : Int} {t u : Tok} {c : Bool} {R : Bool → Led → Prop} (hc : (decide (a < b)) = c) (h : R c led) : Cm G .Lt (.int a t) (.int b u) ρ led R := fun ok Φ s _ E I k x => lt_int (k _ led s.heap s.toks I ⟨c, congrArg Value.bool hc, h⟩)
theorem Cm.gtI {a b : Int} {t u : Tok} {c : Bool} {R : Bool → Led → Prop} (hc : (decide (b < a)) = c) (h : R c led) : Cm G .Gt (.int a t) (.int b u) ρ led R := fun ok Φ s _ E I k x => gt_int (k _ led s.heap s.toks I ⟨c, congrArg Value.bool hc, h⟩)
theorem Cm.isRN {a : Addr} {R : Bool → Led → Prop} (h : R false led) : Cm G .Is (.ref a) .none ρ led R := fun ok Φ s _ E I k x => is_ref_none (k _ led s.heap s.toks I ⟨_, rfl, h⟩)
theorem Cm.isNN {R : Bool → Led → Prop} (h : R true led) : Cm G .Is .none .none ρ led R := fun ok Φ s _ E I k x => is_none_none (k _ led s.heap s.toks I ⟨_, rfl, h⟩)
end
end
section
open PySem PySem.W PyProof.Rows PySem.Calls PySem.Spec
/-- a contract: what is made new lies ahead of the ledger -/
def RDs (Ps : Option Addr → Prop) (w : World) (n : Nat) (f : Addr) (vs : List Value) (led : Led) (O : Led → Value → Prop) : Prop :=
  ∀ (G : Gx) (ρ : Rho) (all : Led) (R : Value → Led → Prop), G.w = w → n ≤ G.k → Ps G.src → (∀ q ∈ led, q ∈ all) → (∀ v tl, O tl v → R v (tl ++ all)) → Ca G (.ref f) vs ρ all R
def RD (w : World) (n : Nat) (f : Addr) (vs : List Value) (led : Led) (Out : Led → Value → Prop) : Prop := RDs (fun _ => True) w n f vs led fun tl v => Out (tl ++ led) v
def BX (w : World) (n : Nat) (f : Addr) (vs : List Value) (S : Addr) (led : Led) (O : Led → Value → Prop) : Prop := RDs (fun s => s = some S) w n f vs led O
/-- a contract of a def that raises -/
def RE (w : World) (n : Nat) (f : Addr) (vs : List Value) (led : Led) : Prop :=
  ∀ (G : Gx) (ρ : Rho) (all all0 : Led) (R : Value → Led → Prop), G.w = w → n ≤ G.k → G.src = none → G.ex = some all0 → (∀ q ∈ all0, q ∈ all) → (∀ q ∈ led, q ∈ all) → Ca G (.ref f) vs ρ all R
/-- the end of such a def -/
def Fin (all : Led) (O : Led → Value → Prop) (v : Value) (led' : Led) : Prop := ∃ tl, led' = tl ++ all ∧ O tl v
/-- the whole is what is new and the old -/
inductive Split (led : Led) : Led → Led → Prop
  | nil : Split led led []
  | cons {p r t} : Split led r t → Split led (p :: r) (p :: t)
  | app {u r t} : Split led r t → Split led (u ++ r) (u ++ t)
theorem Split.eq {led all tl : Led} (h : Split led all tl) : all = tl ++ led := by
  induction h with
  | nil => rfl
  | cons _ ih => rw [ih]; rfl
  | app _ ih => rw [ih, List.append_assoc]
theorem Fin.mk {led all led' now tl : Led} {Out : Led → Value → Prop} {v : Value} (S : Split all led' tl) (S₂ : Split led now tl) (O : Out now v) : Fin all (fun tl v => Out (tl ++ led) v) v led' := ⟨tl, S.eq, by have e := S₂.eq; subst e; exact O⟩
theorem Fin.mkB {all led' tl : Led} {O : Led → Value → Prop} {v : Value} (S : Split all led' tl) (h : O tl v) : Fin all O v led' := ⟨tl, S.eq, h⟩

theorem sub_mem {led all : Led} {q : Addr × Obj} (h : ∀ q ∈ led, q ∈ all) (m : q ∈ led) : q ∈ all := h q m
theorem sub_tail {led all : Led} {p : Addr × Obj} (h : ∀ q ∈ led, q ∈ all) : ∀ q ∈ led, q ∈ p :: all := fun q hq => .tail _ (h q hq)
theorem sub_left {led all t : Led} (h : ∀ q ∈ led, q ∈ t) : ∀ q ∈ led, q ∈ t ++ all := fun q hq => List.mem_append_left _ (h q hq)
theorem sub_right {led all t : Led} (h : ∀ q ∈ led, q ∈ all) : ∀ q ∈ led, q ∈ t ++ all := fun q hq => List.mem_append_right _ (h q hq)
theorem sub_both {led all t : Led} (h : ∀ q ∈ t, q ∈ all) (k : ∀ q ∈ led, q ∈ all) : ∀ q ∈ t ++ led, q ∈ all := fun q hq => (List.mem_append.mp hq).elim (h q) (k q)
section
variable {w : World} {n : Nat} {f : Addr} {vs : List Value} {led : Led} {name qual : Str} {params : Arguments} {body : List Stmt} {scope : Scope} {dV kV doc pm cdv ct oc : Value} {an od : Option Addr} {osl : Array (Option Value)} {binds : Rho}
noncomputable def nodupB : List Str → Bool
  | [] => true
  | x :: xs => !(xs.contains x) && nodupB xs
theorem nodup_of : ∀ {l : List Str}, nodupB l = true → l.Nodup
  | [], _ => List.nodup_nil
  | x :: xs, h => by
    unfold nodupB at h
    simp only [Bool.and_eq_true, Bool.not_eq_true'] at h
    refine List.nodup_cons.mpr ⟨fun c => ?_, nodup_of h.2⟩
    have h1 := h.1
    rw [List.contains_iff_mem.mpr c] at h1
    exact Bool.noConfusion h1
/-- what a def's call asks of the text -/
structure FnOk (w : World) (f : Addr) (vs : List Value) (scope : Scope) (body : List Stmt) (binds : Rho) : Prop where
  it : ∃ name qual params dV kV doc pm an cdv ct oc od osl, (KF w.params).lookup f = some ⟨oc, od, .func (fnOf name qual params body scope dV kV doc pm an cdv ct), osl⟩ ∧ codeIn (KF w.params) cdv qual = true ∧
    (∀ s : Shared, (KF w.params).In s.heap → BindsTo s (fnOf name qual params body scope dV kV doc pm an cdv ct) ⟨vs, []⟩ binds)
  loc : (binds.all fun y => decide (scope.names.lookup y.1 = some .local)) = true
  nd : (binds.map (·.1)).Nodup
  co : scope.isCoroutine = false
  gen : scope.isGenerator = false
  kf : scope.kind = .function
  cell : (scope.names.all fun y => y.2 != .cell) = true
theorem FnOk.mk' (ho : (KF w.params).lookup f = some ⟨oc, od, .func (fnOf name qual params body scope dV kV doc pm an cdv ct), osl⟩) (hcd : codeIn (KF w.params) cdv qual = true)
    (hbind : ∀ s : Shared, (KF w.params).In s.heap → BindsTo s (fnOf name qual params body scope dV kV doc pm an cdv ct) ⟨vs, []⟩ binds)
    (hloc : (binds.all fun y => decide (scope.names.lookup y.1 = some .local)) = true) (hnd : nodupB (binds.map (·.1)) = true) (hco : scope.isCoroutine = false) (hgen : scope.isGenerator = false) (hk : scope.kind = .function) (hcell : (scope.names.all fun y => y.2 != .cell) = true) : FnOk w f vs scope body binds :=
  ⟨⟨_, _, _, _, _, _, _, _, _, _, _, _, _, ho, hcd, hbind⟩, hloc, nodup_of hnd, hco, hgen, hk, hcell⟩

theorem FnOk.code {G : Gx} {A : Around} {k : Nat} {Φ led : Led} {ρ : Rho} {s : Shared} {E : Value → Shared → Prop} {R : Result → Shared → Prop} {Rb : Value → Led → Prop} (H : FnOk G.w f vs scope body binds)
    (ok : G.Ok) (I : Inv G Φ ρ led s.heap) (x : Exc G Φ s E) (hA : A.frames = some (G.env :: G.outer)) (hH : A.handled = none) (hd : A.depth + 1 + k < 1000) (hu : A.units + 3 + 8 * k < 9900)
    (hb : ∀ G' : Gx, G'.w = G.w → G'.sc = scope → G'.k = k → G'.src = G.src → G'.ex = G.ex → G'.base = G.base → Ss G' body binds led fun fl _ led' => Rb (retOf fl) led')
    (kr : ∀ v led' h' tk', Inv G Φ ρ led' h' → Rb v led' → R (.ok (.ret v)) { s with heap := h', toks := tk' }) (ke : ∀ e s', E e s' → R (.error e) s') :
    codeAny (model prog G.w) A (.call (.ref f) ⟨vs, []⟩) R s := by
  obtain ⟨⟨name, qual, params, dV, kV, doc, pm, an, cdv, ct, oc, od, osl, ho, hcd, hbind⟩, hloc, hnd, hco, hgen, hk, hcell⟩ := H
  obtain ⟨m, F, hm⟩ := id I.F
  exact body_in ok I x hA hH hd hu ho hcd (hbind s (ok.K.keeps F.keep)) hloc hnd hco hgen hk hcell hb kr ke

/-- a call walked inline -/
theorem Ca.inl {G : Gx} {ρ : Rho} {R : Value → Led → Prop} (H : FnOk G.w f vs scope body binds) (hn : 1 ≤ G.k)
    (hb : ∀ G' : Gx, G'.w = G.w → G'.sc = scope → G'.k = G.k - 1 → G'.src = G.src → G'.ex = G.ex → G'.base = G.base → Ss G' body binds led fun fl _ led' => R (retOf fl) led') : Ca G (.ref f) vs ρ led R :=
  fun ok Φ s Q E I k x => wpAny_call (H.code (A := G.A) (k := G.k - 1) ok I x rfl rfl (by have := ok.d; show G.dp + 1 + (G.k - 1) < 1000; omega) (by have := ok.u; show G.un + 3 + 8 * (G.k - 1) < 9900; omega) hb (fun v led' h' tk' I' r => k v led' h' tk' I' r) fun e s' h => h)
theorem RDs.enter {Ps : Option Addr → Prop} {O : Led → Value → Prop} (H : FnOk w f vs scope body binds)
    (hb : ∀ (G : Gx) (all : Led), G.w = w → G.sc = scope → n ≤ G.k → Ps G.src → (∀ q ∈ led, q ∈ all) → Ss G body binds all fun fl _ led' => Fin all O (retOf fl) led') : RDs Ps w (n + 1) f vs led O := by
  intro G ρ all R hw hn hP hsub hR
  subst hw
  refine Ca.inl H (by omega) fun G' e1 e2 e3 e4 e5 _ => ?_
  intro ok Φ s Q E I k x
  exact hb G' all e1 e2 (by omega) (e4 ▸ hP) hsub ok Φ s Q E I (fun fl ρ' led' h' tk' I' ⟨tl, e, o⟩ => k fl ρ' led' h' tk' I' (by subst e; exact hR _ tl o)) x
theorem RD.enter {Out : Led → Value → Prop} (H : FnOk w f vs scope body binds)
    (hb : ∀ (G : Gx) (all : Led), G.w = w → G.sc = scope → n ≤ G.k → (∀ q ∈ led, q ∈ all) → Ss G body binds all fun fl _ led' => Fin all (fun tl v => Out (tl ++ led) v) (retOf fl) led') : RD w (n + 1) f vs led Out :=
  RDs.enter H fun G all a b c _ d => hb G all a b c d
theorem BX.enter {S : Addr} {O : Led → Value → Prop} (H : FnOk w f vs scope body binds)
    (hb : ∀ (G : Gx) (all : Led), G.w = w → G.sc = scope → n ≤ G.k → G.src = some S → (∀ q ∈ led, q ∈ all) → Ss G body binds all fun fl _ led' => Fin all O (retOf fl) led') : BX w (n + 1) f vs S led O :=
  RDs.enter H hb
theorem RE.enter (H : FnOk w f vs scope body binds)
    (hb : ∀ (G : Gx) (all all0 : Led), G.w = w → G.sc = scope → n ≤ G.k → G.src = none → G.ex = some all0 → (∀ q ∈ all0, q ∈ all) → (∀ q ∈ led, q ∈ all) → Ss G body binds all fun _ _ _ => False) : RE w (n + 1) f vs led := by
  intro G ρ all all0 R hw hn hP hx hx0 hsub
  subst hw
  refine Ca.inl H (by omega) fun G' e1 e2 e3 e4 e5 _ => ?_
  intro ok Φ s Q E I k x
  exact hb G' all all0 e1 e2 (by omega) (e4.trans hP) (e5.trans hx) hx0 hsub ok Φ s Q E I (fun fl ρ' led' h' tk' I' h => h.elim) x
end
section
variable {G : Gx} {ρ : Rho} {led : Led} {w : World} {n : Nat} {f : Addr} {vs : List Value}
-- the contracts used
theorem Ca.rd0 {Out : Led → Value → Prop} {R : Value → Led → Prop} (hw : G.w = w) (hn : n ≤ G.k) (C : RD w n f vs [] Out) (h : ∀ v tl, Out tl v → R v (tl ++ led)) : Ca G (.ref f) vs ρ led R :=
  C G ρ led R hw hn trivial (fun _ h => (nomatch h)) fun v tl o => h v tl (List.append_nil tl ▸ o)
/-- led₀ is a part of the ledger -/
theorem Ca.rd {led₀ : Led} {Out : Led → Value → Prop} {R : Value → Led → Prop} (hw : G.w = w) (hn : n ≤ G.k) (C : RD w n f vs led₀ Out) (sub : ∀ q ∈ led₀, q ∈ led) (h : ∀ v tl, (∀ q ∈ tl ++ led₀, q ∈ tl ++ led) → Out (tl ++ led₀) v → R v (tl ++ led)) : Ca G (.ref f) vs ρ led R :=
  C G ρ led R hw hn trivial sub fun v tl o => h v tl (fun q hq => (List.mem_append.mp hq).elim (fun h => List.mem_append_left _ h) fun h => List.mem_append_right _ (sub q h)) o
theorem Ca.bx {S : Addr} {led₀ : Led} {O : Led → Value → Prop} {R : Value → Led → Prop} (hw : G.w = w) (hn : n ≤ G.k) (hS : G.src = some S) (C : BX w n f vs S led₀ O) (sub : ∀ q ∈ led₀, q ∈ led) (h : ∀ v tl, O tl v → R v (tl ++ led)) : Ca G (.ref f) vs ρ led R :=
  C G ρ led R hw hn hS sub h
theorem Ca.re {led₀ all0 : Led} {R : Value → Led → Prop} (hw : G.w = w) (hn : n ≤ G.k) (hS : G.src = none) (hx : G.ex = some all0) (C : RE w n f vs led₀) (s0 : ∀ q ∈ all0, q ∈ led) (sub : ∀ q ∈ led₀, q ∈ led) : Ca G (.ref f) vs ρ led R :=
  C G ρ led all0 R hw hn hS hx s0 sub
end
end
section
open PySem PySem.W PyProof.Rows PySem.Calls PySem.Spec
section
variable {G : Gx} {ρ : Rho} {led : Led}
/-- getMethod -/
def Gm (G : Gx) (o : Value) (x : Str) (ρ : Rho) (led : Led) (R : Value → List Value → Led → Prop) : Prop := ∀ pl, Tv G (getMethod o x pl) ρ led fun fx led' => R fx.1 fx.2 led'
@[reducible] def cw2K (G : Gx) (args : List PySem.Expr) (ρ : Rho) (R : Value → Led → Prop) : Value → List Value → Led → Prop := fun f first led => Cw G f first args ρ led R
@[reducible] def methK (G : Gx) (x : Str) (args : List PySem.Expr) (ρ : Rho) (R : Value → Led → Prop) : Value → Led → Prop := fun o led => Gm G o x ρ led (cw2K G args ρ R)
theorem Ex.meth {o : PySem.Expr} {x : Str} {apos pos : Pos} {args : List PySem.Expr} {R : Value → Led → Prop} {pl : Sem Bool}
    (he : eval (.Call (.Attribute o x apos) args [] pos) G.env = (do let ov ← eval o G.env; standAt apos.atName; let __x ← holding [ov] (getMethod ov x pl); match __x with | (f, first) => callWith pos f first (backTo pos (starEach args G.env)) []))
    (h : Ex G o ρ led (methK G x args ρ R)) : Ex G (.Call (.Attribute o x apos) args [] pos) ρ led R :=
  fun ok Φ s _ E I k y => MethodCall_ (pl := pl) (h ok Φ s _ E I (fun a led1 h1 t1 I1 q => q _ ok Φ _ _ E I1 (fun fx led2 h2 t2 I2 q => q pos ok Φ _ _ E I2 k y) y) y) he
theorem Gm.cls {C f : Addr} {x : Str} {mc : Value} {R : Value → List Value → Led → Prop} (h1 : specialIn (KF G.w.params) (.ref C) "__getattribute__" = some (some (.builtin "type.__getattribute__"))) (h2 : typeIn (KF G.w.params) (.ref C) = some mc) (h3 : readsIn (KF G.w.params) C mc = true)
    (h4 : findCls (KF G.w.params) (.ref C) mc x = some (CFound.val (.ref f))) (h : R (.ref f) [] led) : Gm G (.ref C) x ρ led R :=
  fun pl ok Φ s _ E I k y => have ⟨_, F, _⟩ := I.F
    method_of_cls F ok.K h1 (cls_val F ok.K h2 h3 h4 rfl (k (_, _) led s.heap _ I h))
/-- a class called -/
theorem Ca.cls {C fI : Addr} {vs : List Value} {R : Value → Led → Prop} {scope : Scope} {body : List Stmt} {binds : Addr → Rho} (hm : makesIn (KF G.w.params) C = true) (hi : findIn (KF G.w.params) (.ref C) "__init__" = some (some (.ref fI))) (hf : isFn (KF G.w.params) (.ref fI) = true)
    (H : ∀ x, FnOk G.w fI (.ref x :: vs) scope body (binds x)) (hn : 2 ≤ G.k)
    (hb : ∀ (G' : Gx) (x d : Addr), G'.w = G.w → G'.sc = scope → G'.k = G.k - 2 → G'.src = G.src → G'.ex = G.ex → G'.base = G.base → Ss G' body (binds x) ((x, instObj C d) :: (d, dictOf [] 0) :: led) fun fl _ led' => retOf fl = .none ∧ R (.ref x) led') : Ca G (.ref C) vs ρ led R :=
  fun ok Φ s Q E I k y => by
    obtain ⟨m, F, hm'⟩ := I.F
    obtain ⟨sl, hsl, N, D⟩ := I.N
    refine call_cls F ok.K N hm hi hf fun x dx h' F' N' l1 l2 => ?_
    refine (H x).code (k := G.k - 2) (Rb := fun v led' => v = .none ∧ R (.ref x) led') (E := E) ok (Φ := Φ) (ρ := ρ) (led := (x, instObj C dx) :: (dx, dictOf [] 0) :: led) ⟨⟨m, F', hm'⟩, sl, hsl, N', nodup_cons (fun p hp => ?_) (nodup_cons l1 D)⟩ y rfl rfl ?_ ?_ (fun G' e1 e2 e3 e4 e5 e6 => hb G' x dx e1 e2 e3 e4 e5 e6) (fun v led' h' tk' I' r => ⟨r.1, k _ led' h' tk' I' r.2⟩) (fun e s' h => h)
    · rcases List.mem_cons.mp hp with rfl | hp
      · exact l2
      · exact Nat.lt_trans (l1 p hp) l2
    · have := ok.d
      show G.dp + 1 + 1 + (G.k - 2) < 1000
      omega
    · have := ok.u
      show G.un + 1 + 3 + 8 * (G.k - 2) < 9900
      omega
theorem St.setA {o value : PySem.Expr} {x : Str} {pos' pos : Pos} {R : Flow → Rho → Led → Prop} (hw : ∀ env, swapsWith value (some (.Attribute o x pos')) pos.line env = pure false) (h : Ex G value ρ led fun v led1 => Ex G o ρ led1 fun ov led2 => Sa G ov x v ρ led2 fun led3 => R .next ρ led3) : St G (.Assign [.Attribute o x pos'] value pos) ρ led R :=
  fun ok Φ s _ E I k y => plainObj_wpAny_Assign_Attribute (h ok Φ s _ E I (fun a led1 h1 t1 I1 q => q ok Φ _ _ E I1 (fun b led2 h2 t2 I2 q => q ok Φ _ _ E I2 (fun _ led3 h3 t3 I3 q => k _ _ _ _ _ I3 q) y.2) y.2) y.2) (hw _)
def setOk (K : Frag) (C : Addr) (x : Str) : Bool := findIn K (.ref C) "__setattr__" == some (some (.builtin "object.__setattr__")) && plainOver K C && takerIn K C x == some none && hasDictIn K C
theorem putL_new {x : Str} {h : Int} {key v : Value} : ∀ {es : List DictEntry}, (es.any (·.key.isStr x)) = false → putL x h key v es = es ++ [⟨h, key, v⟩]
  | [], _ => rfl
  | e :: es, q => by
    rw [List.any_cons, Bool.or_eq_false_iff] at q
    unfold putL
    rw [if_neg (by rw [q.1]; exact Bool.false_ne_true), putL_new q.2]; rfl
/-- an attribute that was not -/
theorem Sa.inst {a d C : Addr} {es : List DictEntry} {n : Nat} {x : Str} {v : Value} {R : Led → Prop} (m : (a, instObj C d) ∈ led) (m2 : (d, dictOf es n) ∈ led) (hC : setOk (KF G.w.params) C x = true) (hl : (getL x es).isSome = true) (hx : (es.any (·.key.isStr x)) = false) (hz : Nat.ble es.length 900 = true)
    (h : ∀ t, ∃ led', At d (dictOf es n) (dictOf (es ++ [⟨PyData.keyHash G.w.params x, .str x t, v⟩]) (n + 1)) led led' ∧ R led') : Sa G (.ref a) x v ρ led R :=
  fun ok Φ s _ E I k y => by
    obtain ⟨mm, F, hm'⟩ := I.F
    obtain ⟨sl, hsl, N, D⟩ := I.N
    unfold setOk at hC
    simp only [Bool.and_eq_true, beq_iff_eq] at hC
    obtain ⟨⟨⟨c1, c2⟩, c3⟩, c4⟩ := hC
    obtain ⟨led', U, h'⟩ := h (s.toks + 1)
    obtain ⟨U1, D1⟩ := U.upd D
    refine set_dict F ok.K N (InstAt.of_news N (List.mem_append_left _ m) (List.mem_append_left _ m2)) rfl c1 c2 c3 c4 hl (es' := es ++ [⟨PyData.keyHash G.w.params x, .str x (s.toks + 1), v⟩]) (n' := n + 1) (by rw [putL_new hx]; unfold putN; rw [if_neg (by rw [hx]; exact Bool.false_ne_true)]) U1 ?_ fun h' F' N' => k () led' h' _ ⟨⟨mm, F', hm'⟩, sl, hsl, N', D1⟩ (by assumption)
    rw [List.length_append]
    have := Nat.le_of_ble_eq_true hz
    show es.length + 1 ≤ 1000
    omega
end
end
section
open PySem PySem.W PyProof.Rows PySem.Calls PySem.Spec
section
variable {G : Gx} {ρ : Rho} {led : Led} {sc : Scope} {x : Str} {np pos : Pos} {n : Nat}
@[reducible] def retK (R : Flow → Rho → Led → Prop) (ρ : Rho) : Value → Led → Prop := fun v led => R (.ret v) ρ led
@[reducible] def restK (G : Gx) (rest : List Stmt) (ρ : Rho) (R : Flow → Rho → Led → Prop) : Value → Led → Prop := fun _ led => Ss G rest ρ led R
@[reducible] def asgK (G : Gx) (rest : List Stmt) (x : Str) (ρ : Rho) (R : Flow → Rho → Led → Prop) : Value → Led → Prop := fun v led => Ss G rest ((x, v) :: ρ) led R
@[reducible] def sa2K (G : Gx) (x : Str) (rest : List Stmt) (ρ : Rho) (R : Flow → Rho → Led → Prop) (v : Value) : Value → Led → Prop := fun ov led => Sa G ov x v ρ led fun led3 => Ss G rest ρ led3 R
@[reducible] def saK (G : Gx) (o : PySem.Expr) (x : Str) (rest : List Stmt) (ρ : Rho) (R : Flow → Rho → Led → Prop) : Value → Led → Prop := fun v led => Ex G o ρ led (sa2K G x rest ρ R v)
@[reducible] def iteK (G : Gx) (a b : List Stmt) (ρ : Rho) (R : Flow → Rho → Led → Prop) : Bool → Led → Prop := fun c led => match c with | true => Ss G a ρ led R | false => Ss G b ρ led R
@[reducible] def iteRK (G : Gx) (e : PySem.Expr) (rest : List Stmt) (ρ : Rho) (R : Flow → Rho → Led → Prop) : Bool → Led → Prop := fun c led => match c with | true => Ex G e ρ led (retK R ρ) | false => Ss G rest ρ led R
@[reducible] def iteNK (G : Gx) (a rest : List Stmt) (ρ : Rho) (R : Flow → Rho → Led → Prop) : Bool → Led → Prop := fun c led => match c with | true => Ss G a ρ led (nxt G rest R) | false => Ss G rest ρ led R
-- simple arguments at once
theorem Exs.loc {v : Value} {es : List PySem.Expr} {R : List Value → Led → Prop} (hs : G.sc = sc) (hv : (x, v) ∈ ρ) (hk : sc.names.lookup x = some .local) (hd : (x == ("__debug__" : Str)) = false) (h : Exs G es ρ led (consK R v)) : Exs G (.Name x np :: es) ρ led R := .cons rfl (.loc hs hv hk hd h)
theorem Exs.locX {v : Value} {es : List PySem.Expr} {R : List Value → Led → Prop} (hs : G.sc = sc) (hv : (x, v) ∈ ρ) (hn : locN sc x = true) (h : Exs G es ρ led (consK R v)) : Exs G (.Name x np :: es) ρ led R := .cons rfl (.locX hs hv hn h)
theorem Exs.int {i : Int} {es : List PySem.Expr} {R : List Value → Led → Prop} (h : ∀ t, Exs G es ρ led (consK R (.int i t))) : Exs G (.Constant (.int i) n pos :: es) ρ led R := .cons rfl (.int h)
theorem Exs.str {i : Str} {es : List PySem.Expr} {R : List Value → Led → Prop} (h : ∀ t, Exs G es ρ led (consK R (.str i t))) : Exs G (.Constant (.str i) n pos :: es) ρ led R := .cons rfl (.str h)
theorem Exs.none {es : List PySem.Expr} {R : List Value → Led → Prop} (h : Exs G es ρ led (consK R .none)) : Exs G (.Constant .none n pos :: es) ρ led R := .cons rfl (.none h)
theorem Exs.bool {b : Bool} {es : List PySem.Expr} {R : List Value → Led → Prop} (h : Exs G es ρ led (consK R (.bool b))) : Exs G (.Constant (.bool b) n pos :: es) ρ led R := .cons rfl (.bool h)
-- statements at once
theorem Ss.ret {e : PySem.Expr} {rest : List Stmt} {R : Flow → Rho → Led → Prop} (h : Ex G e ρ led (retK R ρ)) : Ss G (.Return (some e) pos :: rest) ρ led R := .cons (.ret h)
theorem Ss.expr {e : PySem.Expr} {rest : List Stmt} {R : Flow → Rho → Led → Prop} (hw : ∀ env, swapsWith e none pos.line env = pure false) (h : Ex G e ρ led (restK G rest ρ R)) : Ss G (.Expr e pos :: rest) ρ led R := .cons (.expr hw h)
theorem Ss.asg {e : PySem.Expr} {px : Pos} {rest : List Stmt} {R : Flow → Rho → Led → Prop} (hs : G.sc = sc) (hk : sc.names.lookup x = some .local) (hw : ∀ env, swapsWith e (some (.Name x px)) pos.line env = pure false) (hx : hasKey x ρ = false) (h : Ex G e ρ led (asgK G rest x ρ R)) : Ss G (.Assign [.Name x px] e pos :: rest) ρ led R := .cons (.asg hs hk hw hx h)
theorem Ss.asgU {e : PySem.Expr} {px : Pos} {rest : List Stmt} {ρ' : Rho} {R : Flow → Rho → Led → Prop} (hs : G.sc = sc) (hk : sc.names.lookup x = some .local) (hw : ∀ env, swapsWith e (some (.Name x px)) pos.line env = pure false) (hdr : Drop x ρ ρ') (hx : hasKey x ρ' = false) (h : Ex G e ρ led (asgK G rest x ρ' R)) : Ss G (.Assign [.Name x px] e pos :: rest) ρ led R := .cons (.asgU hs hk hw hdr hx h)
theorem Ss.setA {o value : PySem.Expr} {rest : List Stmt} {pos' : Pos} {R : Flow → Rho → Led → Prop} (hw : ∀ env, swapsWith value (some (.Attribute o x pos')) pos.line env = pure false) (h : Ex G value ρ led (saK G o x rest ρ R)) : Ss G (.Assign [.Attribute o x pos'] value pos :: rest) ρ led R := .cons (.setA hw h)
theorem Ss.ite {t : PySem.Expr} {a b rest : List Stmt} {R : Flow → Rho → Led → Prop} (h : Te G t ρ led (iteK G a b ρ (nxt G rest R))) : Ss G (.If t a b pos :: rest) ρ led R := .cons (.ite h)
/-- if t: return e -/
theorem Ss.iteR {t e : PySem.Expr} {rest : List Stmt} {p2 : Pos} {R : Flow → Rho → Led → Prop} (h : Te G t ρ led (iteRK G e rest ρ R)) : Ss G (.If t [.Return (some e) p2] [] pos :: rest) ρ led R :=
  .ite fun ok Φ s Q E I k y => h ok Φ s Q E I (fun c led1 h1 t1 I1 q => k c led1 h1 t1 I1 (match c, q with
    | true, q => Ss.ret q
    | false, q => Ss.nil q)) y
/-- if t: suite, and the suite does not come through -/
theorem Ss.iteN {t : PySem.Expr} {a rest : List Stmt} {R : Flow → Rho → Led → Prop} (h : Te G t ρ led (iteNK G a rest ρ R)) : Ss G (.If t a [] pos :: rest) ρ led R :=
  .ite fun ok Φ s Q E I k y => h ok Φ s Q E I (fun c led1 h1 t1 I1 q => k c led1 h1 t1 I1 (match c, q with
    | true, q => q
    | false, q => Ss.nil q)) y
/-- x == i -/
theorem Te.eqXI {a b : Int} {t : Tok} {c : Bool} {p2 : Pos} {R : Bool → Led → Prop} (hs : G.sc = sc) (hv : (x, .int a t) ∈ ρ) (hk : sc.names.lookup x = some .local) (hd : (x == ("__debug__" : Str)) = false) (hc : (a == b) = c) (h : R c led) : Te G (.Compare (.Name x np) [.Eq] [.Constant (.int b) n p2] pos) ρ led R :=
  .cmp rfl (.loc hs hv hk hd (.int fun _ => .eqI hc h))
/-- x == 's' -/
theorem Te.eqXS {a b : Str} {t : Tok} {c : Bool} {p2 : Pos} {R : Bool → Led → Prop} (hs : G.sc = sc) (hv : (x, .str a t) ∈ ρ) (hk : sc.names.lookup x = some .local) (hd : (x == ("__debug__" : Str)) = false) (hc : (a == b) = c) (h : R c led) : Te G (.Compare (.Name x np) [.Eq] [.Constant (.str b) n p2] pos) ρ led R :=
  .cmp rfl (.loc hs hv hk hd (.str fun _ => .eqS hc h))
theorem Te.eqXSx {a b : Str} {t : Tok} {p2 : Pos} {R : Bool → Led → Prop} (hs : G.sc = sc) (hv : (x, .str a t) ∈ ρ) (hk : sc.names.lookup x = some .local) (hd : (x == ("__debug__" : Str)) = false) (h1 : (a == b) = true → R true led) (h2 : (a == b) = false → R false led) : Te G (.Compare (.Name x np) [.Eq] [.Constant (.str b) n p2] pos) ρ led R := by
  cases hc : (a == b) with
  | true => exact .eqXS hs hv hk hd hc (h1 hc)
  | false => exact .eqXS hs hv hk hd hc (h2 hc)
theorem Te.ltXI {a b : Int} {t : Tok} {c : Bool} {p2 : Pos} {R : Bool → Led → Prop} (hs : G.sc = sc) (hv : (x, .int a t) ∈ ρ) (hk : sc.names.lookup x = some .local) (hd : (x == ("__debug__" : Str)) = false) (hc : (decide (a < b)) = c) (h : R c led) : Te G (.Compare (.Name x np) [.Lt] [.Constant (.int b) n p2] pos) ρ led R :=
  .cmp rfl (.loc hs hv hk hd (.int fun _ => .ltI hc h))
theorem Cw.f0 {f : Addr} {e : PySem.Expr} {es : List PySem.Expr} {R : Value → Led → Prop} (hf : keepIn (KF G.w.params) (.ref f) = true) (hp : plainEs (e :: es) = true) (h : Exs G (e :: es) ρ led (caK G (.ref f) ρ R)) : Cw G (.ref f) [] (e :: es) ρ led R := .fn hf hp h
theorem Cw.n0 {f : Addr} {R : Value → Led → Prop} (hf : keepIn (KF G.w.params) (.ref f) = true) (h : Ca G (.ref f) [] ρ led R) : Cw G (.ref f) [] [] ρ led R := .fn0 hf h
theorem Cw.b1 {id : String} {o : Value} {e : PySem.Expr} {es : List PySem.Expr} {R : Value → Led → Prop} (hp : plainEs (e :: es) = true) (h : Exs G (e :: es) ρ led (consK (caK G (.builtin id) ρ R) o)) : Cw G (.builtin id) [o] (e :: es) ρ led R := .bi hp h
end
end
section
open PySem PySem.W PyProof.Rows PySem.Calls PySem.Spec
abbrev pair (x y : Value) (n : Nat) : Obj := ⟨.type "tuple", none, .seq #[x, y] n, #[]⟩
/-- a made list or tuple, its items -/
inductive SeqO : Obj → List Value → Prop
  | list {vs n} : SeqO (listOf vs.toArray n) vs
  | tup {vs n} : SeqO ⟨.type "tuple", none, .seq vs.toArray n, #[]⟩ vs
  | pair {x y n} : SeqO (pair x y n) [x, y]
theorem item_any {prog : Program} {w : World} {A : Around} {E : Value → Shared → Prop} {s : Shared} {h₀ : Heap} {L l : Addr} {o : Obj} {news : Led} {vs : List Value} {i : Int} {u : Tok} {v : Value} {value slice : PySem.Expr} {Q : Value → Shared → Prop}
    (N : News h₀ L s.heap news) (m : (l, o) ∈ news) (ho : SeqO o vs) (h0 : 0 ≤ i) (hi : i < 2 ^ 63) (hx : vs[i.toNat]? = some v) (h : Q v s)
    (hs : subscripted slice false (.ref l) (.int i u) = operate [.ref l, .int i u] (getItem (.ref l) (.int i u))) :
    wpAny (model prog w) A (subscriptTail value slice (.ref l) (.int i u)) Q E s := by
  have hlt : i.toNat < vs.length := (List.getElem?_eq_some_iff.mp hx).1
  cases ho with
  | list =>
    have hl := PySem.IsL.isList (N _ m).1
    exact tail_any hl.typeIs slot_list_getitem.lookup (wpAny_getItem_list hl h0 hi (by simpa using hx) h) hs
  | tup =>
    have ht : IsTup s.heap l vs.toArray := ⟨_, (N _ m).1, rfl, _, rfl⟩
    exact item_tupleT ht (by omega) hi (seqIndex_of h0 (by omega)) (by simpa using hx) h hs
  | pair =>
    rename_i x y n
    have ht : IsTup s.heap l [x, y].toArray := ⟨_, (N _ m).1, rfl, _, rfl⟩
    exact item_tupleT ht (by omega) hi (seqIndex_of h0 (by simp only [List.length_cons, List.length_nil] at hlt ⊢; omega)) (by simpa using hx) h hs
def LenIs (vs : List Value) (k : Nat) (ki : Int) : Prop := vs.length = k ∧ (k : Int) = ki
theorem len_lit {vs : List Value} {k : Nat} {ki : Int} (h : vs.length = k) (h2 : (k : Int) = ki) : LenIs vs k ki := ⟨h, h2⟩
/-- x is out of ρ -/
inductive Drp (x : Str) : Rho → Rho → Prop
  | same {ρ} : hasKey x ρ = false → Drp x ρ ρ
  | out {ρ ρ'} : Drop x ρ ρ' → hasKey x ρ' = false → Drp x ρ ρ'
theorem Drp.sub {x : Str} {ρ ρ' : Rho} (h : Drp x ρ ρ') : (∀ p ∈ ρ', p ∈ ρ) ∧ hasKey x ρ' = false := by
  cases h with
  | same h => exact ⟨fun _ h => h, h⟩
  | out a b => exact ⟨a.sub, b⟩
section
variable {G : Gx} {ρ : Rho} {led : Led}
theorem Ca.len {l : Addr} {vs : List Value} {n k : Nat} {ki : Int} {R : Value → Led → Prop} (m : (l, listOf vs.toArray n) ∈ led) (hk : LenIs vs k ki) (hz : k ≤ 1000) (h : ∀ t, R (.int ki t) led) : Ca G (.builtin "len") [.ref l] ρ led R :=
  fun ok Φ s _ E I k y => have ⟨_, _, N, _⟩ := I.N
    KM.len_K N (List.mem_append_left _ m) (by simpa using hk.1) (by omega) (by rw [hk.2]; exact k _ led s.heap _ I (h _))
theorem Sb.item {value slice : PySem.Expr} {l : Addr} {o : Obj} {vs : List Value} {i : Int} {u : Tok} {v : Value} {R : Value → Led → Prop} (m : (l, o) ∈ led) (ho : SeqO o vs) (h0 : 0 ≤ i) (hi : i < 2 ^ 63) (hx : vs[i.toNat]? = some v)
    (hs : subscripted slice false (.ref l) (.int i u) = operate [.ref l, .int i u] (getItem (.ref l) (.int i u))) (h : R v led) : Sb G value slice (.ref l) (.int i u) ρ led R :=
  fun ok Φ s _ E I k y => have ⟨_, _, N, _⟩ := I.N
    item_any N (List.mem_append_left _ m) ho h0 hi hx (k v led s.heap s.toks I h) hs
theorem Bi.cat {a b : Addr} {vs ws : List Value} {n k : Nat} {R : Value → Led → Prop} (ma : (a, listOf vs.toArray n) ∈ led) (mb : (b, listOf ws.toArray k) ∈ led) (hz : vs.length + ws.length ≤ 1000) (h : ∀ D, R (.ref D) ((D, listOf (vs ++ ws).toArray 0) :: led)) : Bi G .Add (.ref a) (.ref b) ρ led R :=
  fun ok Φ s _ E I k y => have ⟨m, F, hm⟩ := I.F
    have ⟨sl, hsl, N, D⟩ := I.N
    add_lists (hsz := by rw [sizeLine_eq]; omega) F N (I.list ma) (I.list mb) fun h' F' N' => k _ _ h' s.toks ⟨⟨m, F', hm⟩, sl, hsl, N', nodup_cons (fun p hp => Heap.lt_size (N p hp).1) D⟩ (h _)
theorem Bi.addI {a b : Int} {t u : Tok} {R : Value → Led → Prop} (h : ∀ t, R (.int (a + b) t) led) : Bi G .Add (.int a t) (.int b u) ρ led R := fun ok Φ s _ E I k y => add_int (k _ led s.heap _ I (h _))
theorem Bi.subI {a b : Int} {t u : Tok} {R : Value → Led → Prop} (h : ∀ t, R (.int (a - b) t) led) : Bi G .Sub (.int a t) (.int b u) ρ led R := fun ok Φ s _ E I k y => sub_int (k _ led s.heap _ I (h _))
theorem Bi.modI {a b : Int} {t u : Tok} {R : Value → Led → Prop} (hb : b ≠ 0) (h : ∀ t, R (.int (a.fmod b) t) led) : Bi G .Mod (.int a t) (.int b u) ρ led R := fun ok Φ s _ E I k y => mod_int' hb (k _ led s.heap _ I (h _))
theorem Ca.intI {n : Int} {u : Tok} {R : Value → Led → Prop} (h : R (.int n u) led) : Ca G (.type "int") [.int n u] ρ led R := fun ok Φ s _ E I k y => call_int_int (k _ led s.heap s.toks I h)
theorem Ex.callB {sc : Scope} {n : Str} {np pos : Pos} {id : String} {e : PySem.Expr} {es : List PySem.Expr} {R : Value → Led → Prop} (hs : G.sc = sc) (hg : nsIn (KF G.w.params) mainGlobals n = some Option.none) (hv : bootBuiltins n = some (.builtin id)) (hm : n ≠ "__name__") (hk : sc.names.lookup n = some .globalImplicit) (hd : (n == ("__debug__" : Str)) = false)
    (hp : plainEs (e :: es) = true) (h : Exs G (e :: es) ρ led (caK G (.builtin id) ρ R)) : Ex G (.Call (.Name n np) (e :: es) [] pos) ρ led R :=
  .call (.blt hs hg hv hm hk hd (Cw.bi hp h))
theorem Ex.callT {sc : Scope} {n : Str} {np pos : Pos} {T : String} {e : PySem.Expr} {es : List PySem.Expr} {R : Value → Led → Prop} (hs : G.sc = sc) (hg : nsIn (KF G.w.params) mainGlobals n = some Option.none) (hv : bootBuiltins n = some (.type T)) (hm : n ≠ "__name__") (hk : sc.names.lookup n = some .globalImplicit) (hd : (n == ("__debug__" : Str)) = false)
    (hp : plainEs (e :: es) = true) (h : Exs G (e :: es) ρ led (caK G (.type T) ρ R)) : Ex G (.Call (.Name n np) (e :: es) [] pos) ρ led R :=
  .call (.blt hs hg hv hm hk hd (Cw.ty hp h))
theorem Ex.neg {i : Int} {n : Nat} {p1 pos : Pos} {R : Value → Led → Prop} (h : ∀ t, R (.int (-i) t) led) : Ex G (.UnaryOp .USub (.Constant (.int i) n p1) pos) ρ led R :=
  fun ok Φ s _ E I k y => UnaryOp_ (Ex.int (R := fun v led1 => ∃ t, v = .int i t ∧ led1 = led) (fun t => ⟨t, rfl, rfl⟩) ok Φ s _ E I (fun v led1 h1 t1 I1 ⟨t, e, e2⟩ => by subst e e2; exact neg_int (k _ _ h1 _ I1 (h _))) y)
-- x, y = e
theorem Tr.two {x y : Str} {a b : Value} {ρ1 ρ2 : Rho} {sc : Scope} (hs : G.sc = sc) (hx : sc.names.lookup x = some .local) (hy : sc.names.lookup y = some .local) (d1 : Drp x ρ ρ1) (d2 : Drp y ((x, a) :: ρ1) ρ2) {R : Unit → Rho → Led → Prop} (h : R () ((y, b) :: ρ2) led) (ok : G.Ok) {Φ : Led} {s : Shared} {Q : Unit → Shared → Prop} {E : Value → Shared → Prop} (I : Inv G Φ ρ led s.heap)
    (k : ∀ v ρ' led' h' tk', Inv G Φ ρ' led' h' → R v ρ' led' → Q v { s with heap := h', toks := tk' }) (z : ExcS G Φ s E) :
    wpAny (model prog G.w) G.A (storeName G.env x a) (fun _ s₁ => wpAny (model prog G.w) G.A (storeName G.env y b) Q E s₁) E s :=
  Tr.store (R := fun _ ρ' led' => ρ' = (x, a) :: ρ1 ∧ led' = led) hs hx d1.sub.1 d1.sub.2 ⟨rfl, rfl⟩ ok Φ s _ E I (fun _ ρ' led' h' tk' I' e => by
    obtain ⟨rfl, rfl⟩ := e
    exact Tr.store (R := R) hs hy d2.sub.1 d2.sub.2 h ok Φ _ Q E I' k z) z
theorem Ss.asg2 {x y : Str} {e : PySem.Expr} {px py tpos pos : Pos} {n : Nat} {sc : Scope} {rest : List Stmt} {R : Flow → Rho → Led → Prop} (hs : G.sc = sc) (hx : sc.names.lookup x = some .local) (hy : sc.names.lookup y = some .local)
    (hw : ∀ env, swapsWithSole [.Tuple [.Name x px, .Name y py] n tpos] e pos.line env = pure false) (hn : ∀ env, swappedStores [.Tuple [.Name x px, .Name y py] n tpos] e env = pure none)
    (h : Ex G e ρ led fun v led1 => ∃ D a b k ρ1 ρ2, v = .ref D ∧ (D, pair a b k) ∈ led1 ∧ Drp x ρ ρ1 ∧ Drp y ((x, a) :: ρ1) ρ2 ∧ Ss G rest ((y, b) :: ρ2) led1 R) : Ss G (.Assign [.Tuple [.Name x px, .Name y py] n tpos] e pos :: rest) ρ led R :=
  .cons fun ok Φ s Q E I k z => Assign_Tuple (h ok Φ s _ E I (fun v led1 h1 t1 I1 q9 => by
    obtain ⟨D, a, b, kk, ρ1, ρ2, e, m, d1, d2, q⟩ := q9
    subst e
    obtain ⟨mm, F, hm⟩ := I1.F
    obtain ⟨sl, hsl, N, Dd⟩ := I1.N
    refine unpackN_ F N (N.isTup (List.mem_append_left _ m)) rfl rfl rfl fun h' F' N' => ?_
    refine assignInOrder_cons (assign_Name ?_)
    refine wpAny_mono (Tr.two (Q := fun _ s' => Q .next s') (R := fun _ ρ' led' => nxt G rest R .next ρ' led') hs hx hy d1 d2 q ok (s := { s with heap := h', toks := t1 }) ⟨⟨mm, F', hm⟩, sl, hsl, N', Dd⟩ (fun _ ρ' led' h' tk' I' q => k _ ρ' led' h' tk' I' q) z) (fun _ s' h => ?_) fun _ _ h => h
    exact assignInOrder_cons (assign_Name (wpAny_mono h (fun _ _ q => assignInOrder_nil q) fun _ _ h => h))) z.2) (hw _) (hn _)
theorem Ss.asg2s {x y : Str} {e : PySem.Expr} {px py tpos pos : Pos} {n : Nat} {sc : Scope} {rest : List Stmt} {R : Flow → Rho → Led → Prop} (hs : G.sc = sc) (hx : sc.names.lookup x = some .local) (hy : sc.names.lookup y = some .local)
    (hw : ∀ env, swapsWithSole [.Tuple [.Name x px, .Name y py] n tpos] e pos.line env = pure false) (hn : ∀ cn L a ccd cl, swappedStores [.Tuple [.Name x px, .Name y py] n tpos] e (envX cn sc L a ccd cl) = pure (some [x, y]))
    (h : Ex G e ρ led fun v led1 => ∃ D a b k ρ1 ρ2, v = .ref D ∧ (D, pair a b k) ∈ led1 ∧ Drp y ρ ρ1 ∧ Drp x ((y, b) :: ρ1) ρ2 ∧ Ss G rest ((x, a) :: ρ2) led1 R) : Ss G (.Assign [.Tuple [.Name x px, .Name y py] n tpos] e pos :: rest) ρ led R :=
  .cons fun ok Φ s Q E I k z => Assign_Tuple_swapped (names := [x, y]) (h ok Φ s _ E I (fun v led1 h1 t1 I1 q9 => by
    obtain ⟨D, a, b, kk, ρ1, ρ2, e, m, d1, d2, q⟩ := q9
    subst e
    obtain ⟨mm, F, hm⟩ := I1.F
    obtain ⟨sl, hsl, N, Dd⟩ := I1.N
    refine unpackItemsN_ F N (N.isTup (List.mem_append_left _ m)) rfl rfl fun h' F' N' => ?_
    refine assignInOrder_cons (bindName_ ?_)
    refine wpAny_mono (Tr.two (Q := fun _ s' => Q .next s') (R := fun _ ρ' led' => nxt G rest R .next ρ' led') hs hy hx d1 d2 q ok (s := { s with heap := h', toks := t1 }) ⟨⟨mm, F', hm⟩, sl, hsl, N', Dd⟩ (fun _ ρ' led' h' tk' I' q => k _ ρ' led' h' tk' I' q) z) (fun _ s' h => ?_) fun _ _ h => h
    exact assignInOrder_cons (bindName_ (wpAny_mono h (fun _ _ q => assignInOrder_nil q) fun _ _ h => h))) z.2) (hw _) (by subst hs; exact hn _ _ _ _ _)
end
end
section
open PySem PySem.W PyProof.Rows PySem.Calls PySem.Spec
section
variable {prog : Program} {w : World} {A : Around} {E : Value → Shared → Prop} {s : Shared} {env : Env} {h₀ : Heap} {x : Str} {body : List Stmt} {Q : Flow → Shared → Prop}
/-- a loop over a range by a word on the frame and the ledger -/
theorem range_inv {I : Addr} {a : Int} {n : Nat} (J : Nat → (Str → Option Value) → Led → Prop)
    (turn : ∀ i m news t h tk, i < n → J i m news → (∀ p ∈ news, p.1 ≠ I) → Fr h₀ env.locals h (fun y => if y = x then some (.int (a + (i : Int)) t) else m y) →
      News h₀ env.locals h ((I, itR (a + ((i + 1 : Nat) : Int)) ((n : Int) - ((i + 1 : Nat) : Int))) :: news) →
      wpAny (model prog w) A (execs body env) (UnrPost h₀ env.locals { s with heap := h, toks := tk } I (itR (a + ((i + 1 : Nat) : Int)) ((n : Int) - ((i + 1 : Nat) : Int))) (fun m' news' => J (i + 1) m' news' ∧ ∀ p ∈ news', p.1 ≠ I) Q) E { s with heap := h, toks := tk })
    (done : ∀ m news h tk, J n m news → Fr h₀ env.locals h m → News h₀ env.locals h news → Q .next { s with heap := h, toks := tk }) :
    ∀ k i m news, i + k = n → J i m news → (∀ p ∈ news, p.1 ≠ I) → RangeRest prog w A E h₀ env x body Q s I a n k i m news := by
  intro k
  induction k with
  | zero =>
    intro i m news e j _
    obtain rfl : i = n := by omega
    exact RangeRest.zero fun h tk F N => done m news h tk j F N
  | succ k ih =>
    intro i m news e j off
    refine RangeRest.succ fun t h tk F N => ?_
    refine wpAny_mono (turn i m news t h tk (by omega) j off F N) (fun f s₂ p => ?_) fun _ _ e => e
    have fin : UnrEnd h₀ env.locals { s with heap := h, toks := tk } I (itR (a + ((i + 1 : Nat) : Int)) ((n : Int) - ((i + 1 : Nat) : Int))) (fun m' news' => J (i + 1) m' news' ∧ ∀ p ∈ news', p.1 ≠ I) s₂ →
        UnrEnd h₀ env.locals { s with heap := h, toks := tk } I (itR (a + ((i + 1 : Nat) : Int)) ((n : Int) - ((i + 1 : Nat) : Int))) (RangeRest prog w A E h₀ env x body Q s I a n k (i + 1)) s₂ := by
      rintro ⟨h', tk', m', news', e', F', N', o', j', o''⟩
      exact ⟨h', tk', m', news', e', F', N', o', ih (i + 1) m' news' (by omega) j' o'⟩
    cases f with
    | ret v => exact p
    | brk => exact p
    | next => exact fin p
    | cont => exact fin p
end
theorem Exc.mono {G : Gx} {Φ Φ' : Led} {s : Shared} {E : Value → Shared → Prop} (h : Exc G Φ s E) (k : ∀ q ∈ Φ, q ∈ Φ') : Exc G Φ' s E :=
  fun all0 hx =>
    have kk : ∀ q ∈ all0 ++ Φ, q ∈ all0 ++ Φ' := fun q hq => (List.mem_append.mp hq).elim (fun h => List.mem_append_left _ h) fun h => List.mem_append_right _ (k q h)
    ⟨fun e g' m' h' tk' F R => (h all0 hx).1 e g' m' h' tk' F (R.sub kk), fun e dx a0 sl od m' news h' tk' F N me md hm hl => (h all0 hx).2 e dx a0 sl od m' news h' tk' F N me md hm fun q hq => hl q (kk q hq)⟩
theorem perm_in {I : Addr × Obj} {a b c : Led} {q : Addr × Obj} : q ∈ a ++ (b ++ I :: c) ↔ q ∈ I :: (a ++ (b ++ c)) := by
  simp only [List.mem_append, List.mem_cons]
  constructor
  · rintro (h | h | h | h)
    · exact .inr (.inl h)
    · exact .inr (.inr (.inl h))
    · exact .inl h
    · exact .inr (.inr (.inr h))
  · rintro (h | h | h | h)
    · exact .inr (.inr (.inl h))
    · exact .inl h
    · exact .inr (.inl h)
    · exact .inr (.inr (.inr h))
theorem perm_out {I : Addr × Obj} {a b c : Led} : (((a ++ (b ++ I :: c)).map (·.1)).Nodup) ↔ ((I :: (a ++ (b ++ c))).map (·.1)).Nodup := by
  have p : (a ++ (b ++ I :: c)).Perm (I :: (a ++ (b ++ c))) := by
    rw [← List.append_assoc, ← List.append_assoc]
    exact List.perm_middle
  exact (p.map _).nodup_iff
/-- a loop over a range -/
theorem Ss.forR {G : Gx} {ρ : Rho} {led : Led} {x rn : Str} {px rp cp pos : Pos} {e : PySem.Expr} {body rest : List Stmt} {sc : Scope} {R : Flow → Rho → Led → Prop} (J : Nat → Rho → Led → Prop) (hs : G.sc = sc) (hx : sc.names.lookup x = some .local)
    (hg : nsIn (KF G.w.params) mainGlobals rn = some none) (hv : bootBuiltins rn = some (.type "range")) (hm : rn ≠ "__name__") (hk : sc.names.lookup rn = some .globalImplicit) (hd : (rn == ("__debug__" : Str)) = false) (hp : plainE e = true)
    (h : Ex G e ρ led fun v led1 => ∃ (n : Nat) (t : Tok), v = .int n t ∧ n ≤ 100 ∧ (∃ ρ0, (∀ p ∈ ρ0, p ∈ ρ) ∧ J 0 ρ0 led1) ∧ (∀ i ρ' led', i < n → J i ρ' led' → ∃ ρ1, Drp x ρ' ρ1 ∧ ∀ t, Ss G body ((x, .int (i : Nat) t) :: ρ1) led' fun fl ρ2 led2 => fl = .next ∧ ∃ ρ3, (∀ p ∈ ρ3, p ∈ ρ2) ∧ J (i + 1) ρ3 led2) ∧ ∀ ρ' led', J n ρ' led' → Ss G rest ρ' led' R)
    (hf : ∀ env v, foldedSetIterable (.Call (.Name rn rp) [e] [] cp) env v = pure v) : Ss G (.For (.Name x px) (.Call (.Name rn rp) [e] [] cp) body [] pos :: rest) ρ led R :=
  .cons fun ok Φ s Q E I k z => by
    subst hs
    obtain ⟨mF, F, hmF⟩ := id I.F
    obtain ⟨pp, loose, mean, mg, mb, T⟩ := ok.T
    refine For_invV G.g hx (by show (G.sc.kind == .class || (G.sc.kind == .module && G.L != mainGlobals)) = false; rw [ok.f]; rfl) ?_ (hf _) z.1.1
    refine Call_ (nameX_B F ok.K (topRead_of T) hg hv hm (callWith_type1 (spliced_more (h ok Φ s _ E I (fun v led1 h1 t1 I1 r => spliced_none ?_) z.2) (starEach_plain hp)) (starEach_plain hp) (star_plain (by rfl))) ok.f hk hd) rfl
    obtain ⟨n, t, e, hn, ⟨ρ0, sub0, j0⟩, turn, done⟩ := r
    subst e
    obtain ⟨m1, F1, hm1⟩ := I1.F
    obtain ⟨sl1, hsl1, N1, D1⟩ := I1.N
    refine range1_rows F1 N1 fun h2 tk2 t₁ u₁ v₁ hr F2 N2 _ => ?_
    refine iter_rangeUnr (n := n) rfl hr (small_one (by omega) (by omega) (by omega) (by omega)) (by rw [rangeSize_nat, Int.sub_zero] <;> simp) F2 N2 fun I l1 => ?_
    refine range_inv (fun i m news => ∃ ρ' led' sl, (∀ p ∈ ρ', m p.1 = some p.2) ∧ SrcL G.src sl ∧ news = led' ++ (sl ++ Φ) ∧ (news.map (·.1)).Nodup ∧ J i ρ' led') ?_ ?_ n 0 _ _ (by omega) ⟨ρ0, led1, sl1, fun p hp => hm1.2 p (sub0 p hp), hsl1, rfl, D1, j0⟩ fun p hp => Nat.ne_of_lt (l1 p hp)
    · rintro i m news t2 h3 tk3 hi ⟨ρ', led', sl, hm, hsl, rfl, Dn, j⟩ off F3 N3
      obtain ⟨ρ1, dr, tu⟩ := turn i ρ' led' hi j
      have I3 : Inv G ((I, itR (0 + ((i + 1 : Nat) : Int)) ((n : Int) - ((i + 1 : Nat) : Int))) :: Φ) ((x, .int (i : Nat) t2) :: ρ1) led' h3 := ⟨⟨_, F3, z.1.2 _, fun p hp => by
        rcases List.mem_cons.mp hp with rfl | hp
        · simp
        · rw [if_neg (noKey dr.sub.2 p hp)]; exact hm p (dr.sub.1 p hp)⟩, sl, hsl, fun q hq => N3 q (perm_in.mp hq), perm_out.mpr (List.nodup_cons.mpr ⟨fun c => by
          obtain ⟨q, hq, e⟩ := List.mem_map.mp c
          exact off q hq e, Dn⟩)⟩
      refine tu t2 ok _ { s with heap := h3, toks := tk3 } _ E I3 (fun fl ρ2 led2 h4 tk4 I4 r => ?_) ⟨z.1, z.2.mono fun q hq => .tail _ hq⟩
      obtain ⟨rfl, ρ3, sub3, j2⟩ := r
      obtain ⟨m4, F4, hm4⟩ := I4.F
      obtain ⟨sl4, hsl4, N4, D4⟩ := I4.N
      have D5 := List.nodup_cons.mp (perm_out.mp D4)
      exact ⟨h4, tk4, m4, led2 ++ (sl4 ++ Φ), rfl, F4, fun q hq => N4 q (perm_in.mpr hq), fun p hp e => D5.1 (List.mem_map.mpr ⟨p, hp, e⟩), ⟨ρ3, led2, sl4, fun p hp => hm4.2 p (sub3 p hp), hsl4, rfl, D5.2, j2⟩, fun p hp e => D5.1 (List.mem_map.mpr ⟨p, hp, e⟩)⟩
    · rintro m news h3 tk3 ⟨ρ', led', sl, hm, hsl, rfl, Dn, j⟩ F3 N3
      exact k .next ρ' led' h3 tk3 ⟨⟨m, F3, z.1.2 _, hm⟩, sl, hsl, N3, Dn⟩ (done ρ' led' j)
end
section
open PySem PySem.W PyProof.Rows PySem.Calls PySem.Spec
/-- what a pattern-like expression is -/
inductive PE where
  | lit (k : Str) (i : Int)
  | chr (k x : Str)
  | con (x : Str)
  | var (x : Str)
  | app (x : Str) (p : PE)
  | paren (p : PE)
  | tup (p q : PE)
  | neg
  | two (p : PE) (x : Str) (q : PE)
noncomputable def PE.size : PE → Nat
  | .lit .. => 1
  | .chr .. => 1
  | .con .. => 1
  | .var .. => 1
  | .app _ p => p.size + 1
  | .paren p => p.size + 1
  | .tup p q => p.size + q.size + 1
  | .neg => 1
  | .two p _ q => p.size + q.size + 1
noncomputable def PE.row : PE → Dat
  | .lit k i => .tuple [.str "plit", .str k, .int i]
  | .chr k x => .tuple [.str "plit", .str k, .str x]
  | .con x => .tuple [.str "pcon", .str x, .tuple []]
  | .var x => .tuple [.str "pvar", .str x]
  | .app x p => .tuple [.str "pcon", .str x, .tuple [p.row]]
  | .paren p => .tuple [.str "pparen", p.row]
  | .tup p q => .tuple [.str "ptuple", .tuple [p.row, q.row]]
  | .neg => .tuple [.str "plit", .str "int", .int (-3)]
  | .two p x q => .tuple [.str "pinfix", .tuple [p.row, .tuple [.str "op", .str x, .bool true], q.row]]
def PE.names : List Str := ["x", "y", "a", "b"]


/-- the ledger bears an object of class C at a, its dict's entries es -/
abbrev Has (led : Led) (a C : Addr) (es : List DictEntry) : Prop := ∃ d n, (a, instObj C d) ∈ led ∧ (d, dictOf es n) ∈ led

inductive PIn (led : Led) : Addr → PE → Prop
  | lit {a d n h1 h2 h3 t1 t2 t3 tk ti k i} : (a, instObj 306 d) ∈ led → (d, dictOf [ent h1 "place" t1 .none, ent h2 "kind" t2 (.str k tk), ent h3 "value" t3 (.int i ti)] n) ∈ led → PIn led a (.lit k i)
  | chr {a d n h1 h2 h3 t1 t2 t3 tk ti k x} : (a, instObj 306 d) ∈ led → (d, dictOf [ent h1 "place" t1 .none, ent h2 "kind" t2 (.str k tk), ent h3 "value" t3 (.str x ti)] n) ∈ led → PIn led a (.chr k x)
  | con {a d n h1 h2 h3 t1 t2 t3 tk x u} : (a, instObj 279 d) ∈ led → (d, dictOf [ent h1 "place" t1 .none, ent h2 "name" t2 (.str x tk), ent h3 "uses" t3 u] n) ∈ led → PIn led a (.con x)
  | var {a d n h1 h2 h3 t1 t2 t3 tk x u} : (a, instObj 252 d) ∈ led → (d, dictOf [ent h1 "place" t1 .none, ent h2 "name" t2 (.str x tk), ent h3 "uses" t3 u] n) ∈ led → x ∈ PE.names → PIn led a (.var x)
  | app {a d n h1 h2 h3 t1 t2 t3 c dc nc g1 g2 g3 s1 s2 s3 tk x u b p} : (a, instObj 333 d) ∈ led → (d, dictOf [ent h1 "place" t1 .none, ent h2 "fun" t2 (.ref c), ent h3 "arg" t3 (.ref b)] n) ∈ led →
      (c, instObj 279 dc) ∈ led → (dc, dictOf [ent g1 "place" s1 .none, ent g2 "name" s2 (.str x tk), ent g3 "uses" s3 u] nc) ∈ led → PIn led b p → PIn led a (.app x p)
  | paren {a d n h1 h2 t1 t2 b p} : (a, instObj 468 d) ∈ led → (d, dictOf [ent h1 "place" t1 .none, ent h2 "expr" t2 (.ref b)] n) ∈ led → PIn led b p → PIn led a (.paren p)
  | tup {a d n h1 h2 t1 t2 l k b c p q} : (a, instObj 414 d) ∈ led → (d, dictOf [ent h1 "place" t1 .none, ent h2 "items" t2 (.ref l)] n) ∈ led → (l, listOf #[.ref b, .ref c] k) ∈ led → PIn led b p → PIn led c q → PIn led a (.tup p q)
  | neg {a d n h1 h2 t1 t2 l k o od on g1 g2 g3 s1 s2 s3 to b bd bn f1 f2 f3 r1 r2 r3 tk ti} : (a, instObj 387 d) ∈ led → (d, dictOf [ent h1 "place" t1 .none, ent h2 "items" t2 (.ref l)] n) ∈ led → (l, listOf #[.ref o, .ref b] k) ∈ led →
      (o, instObj 360 od) ∈ led → (od, dictOf [ent g1 "place" s1 .none, ent g2 "name" s2 (.str "-" to), ent g3 "is_con" s3 (.bool false)] on) ∈ led →
      (b, instObj 306 bd) ∈ led → (bd, dictOf [ent f1 "place" r1 .none, ent f2 "kind" r2 (.str "int" tk), ent f3 "value" r3 (.int 3 ti)] bn) ∈ led → PIn led a .neg
  | two {a d n h1 h2 t1 t2 l k o od on g1 g2 g3 s1 s2 s3 to b c p q x} : (a, instObj 387 d) ∈ led → (d, dictOf [ent h1 "place" t1 .none, ent h2 "items" t2 (.ref l)] n) ∈ led → (l, listOf #[.ref b, .ref o, .ref c] k) ∈ led →
      (o, instObj 360 od) ∈ led → (od, dictOf [ent g1 "place" s1 .none, ent g2 "name" s2 (.str x to), ent g3 "is_con" s3 (.bool true)] on) ∈ led → PIn led b p → PIn led c q → PIn led a (.two p x q)

theorem PIn.mono {led led' : Led} {a : Addr} {p : PE} (h : PIn led a p) (hs : ∀ q ∈ led, q ∈ led') : PIn led' a p := by
  induction h with
  | lit a b => exact .lit (hs _ a) (hs _ b)
  | chr a b => exact .chr (hs _ a) (hs _ b)
  | con a b => exact .con (hs _ a) (hs _ b)
  | var a b c => exact .var (hs _ a) (hs _ b) c
  | app a b c d _ ih => exact .app (hs _ a) (hs _ b) (hs _ c) (hs _ d) ih
  | paren a b _ ih => exact .paren (hs _ a) (hs _ b) ih
  | tup a b c _ _ i1 i2 => exact .tup (hs _ a) (hs _ b) (hs _ c) i1 i2
  | neg a b c d e f g => exact .neg (hs _ a) (hs _ b) (hs _ c) (hs _ d) (hs _ e) (hs _ f) (hs _ g)
  | two a b c d e _ _ i1 i2 => exact .two (hs _ a) (hs _ b) (hs _ c) (hs _ d) (hs _ e) i1 i2

/-- the pattern read from it -/
inductive PatIn (led : Led) : Addr → PE → Prop
  | lit {a d n h1 h2 h3 t1 t2 t3 tk ti k i} : (a, instObj 549 d) ∈ led → (d, dictOf [ent h1 "place" t1 .none, ent h2 "kind" t2 (.str k tk), ent h3 "value" t3 (.int i ti)] n) ∈ led → PatIn led a (.lit k i)
  | chr {a d n h1 h2 h3 t1 t2 t3 tk ti k x} : (a, instObj 549 d) ∈ led → (d, dictOf [ent h1 "place" t1 .none, ent h2 "kind" t2 (.str k tk), ent h3 "value" t3 (.str x ti)] n) ∈ led → PatIn led a (.chr k x)
  | con {a d n h1 h2 h3 t1 t2 t3 tk x l k} : (a, instObj 576 d) ∈ led → (d, dictOf [ent h1 "place" t1 .none, ent h2 "name" t2 (.str x tk), ent h3 "args" t3 (.ref l)] n) ∈ led → (l, listOf #[] k) ∈ led → PatIn led a (.con x)
  | var {a d n h1 h2 t1 t2 tk x} : (a, instObj 495 d) ∈ led → (d, dictOf [ent h1 "place" t1 .none, ent h2 "name" t2 (.str x tk)] n) ∈ led → PatIn led a (.var x)
  | app {a d n h1 h2 h3 t1 t2 t3 tk x l k b p} : (a, instObj 576 d) ∈ led → (d, dictOf [ent h1 "place" t1 .none, ent h2 "name" t2 (.str x tk), ent h3 "args" t3 (.ref l)] n) ∈ led → (l, listOf #[.ref b] k) ∈ led → PatIn led b p → PatIn led a (.app x p)
  | paren {a d n h1 h2 t1 t2 b p} : (a, instObj 765 d) ∈ led → (d, dictOf [ent h1 "place" t1 .none, ent h2 "pattern" t2 (.ref b)] n) ∈ led → PatIn led b p → PatIn led a (.paren p)
  | tup {a d n h1 h2 t1 t2 l k b c p q} : (a, instObj 603 d) ∈ led → (d, dictOf [ent h1 "place" t1 .none, ent h2 "items" t2 (.ref l)] n) ∈ led → (l, listOf #[.ref b, .ref c] k) ∈ led → PatIn led b p → PatIn led c q → PatIn led a (.tup p q)
  | neg {a d n h1 h2 h3 t1 t2 t3 tk ti} : (a, instObj 549 d) ∈ led → (d, dictOf [ent h1 "place" t1 .none, ent h2 "kind" t2 (.str "int" tk), ent h3 "value" t3 (.int (-3) ti)] n) ∈ led → PatIn led a .neg
  | two {a d n h1 h2 t1 t2 l k o od on g1 g2 g3 s1 s2 s3 to b c p q x} : (a, instObj 738 d) ∈ led → (d, dictOf [ent h1 "place" t1 .none, ent h2 "items" t2 (.ref l)] n) ∈ led → (l, listOf #[.ref b, .ref o, .ref c] k) ∈ led →
      (o, instObj 360 od) ∈ led → (od, dictOf [ent g1 "place" s1 .none, ent g2 "name" s2 (.str x to), ent g3 "is_con" s3 (.bool true)] on) ∈ led → PatIn led b p → PatIn led c q → PatIn led a (.two p x q)

theorem PatIn.mono {led led' : Led} {a : Addr} {p : PE} (h : PatIn led a p) (hs : ∀ q ∈ led, q ∈ led') : PatIn led' a p := by
  induction h with
  | lit a b => exact .lit (hs _ a) (hs _ b)
  | chr a b => exact .chr (hs _ a) (hs _ b)
  | con a b c => exact .con (hs _ a) (hs _ b) (hs _ c)
  | var a b => exact .var (hs _ a) (hs _ b)
  | app a b c _ ih => exact .app (hs _ a) (hs _ b) (hs _ c) ih
  | paren a b _ ih => exact .paren (hs _ a) (hs _ b) ih
  | tup a b c _ _ i1 i2 => exact .tup (hs _ a) (hs _ b) (hs _ c) i1 i2
  | neg a b => exact .neg (hs _ a) (hs _ b)
  | two a b c d e _ _ i1 i2 => exact .two (hs _ a) (hs _ b) (hs _ c) (hs _ d) (hs _ e) i1 i2

theorem fmod_lo {a b : Int} (hb : 0 < b) : 0 ≤ a.fmod b := by rw [Int.fmod_eq_emod_of_nonneg _ (Int.le_of_lt hb)]; exact Int.emod_nonneg _ (Int.ne_of_gt hb)
theorem fmod_hi {a b : Int} (hb : 0 < b) : a.fmod b < b := by rw [Int.fmod_eq_emod_of_nonneg _ (Int.le_of_lt hb)]; exact Int.emod_lt_of_pos _ hb
theorem mul_ok {a b : Int} (h0 : 0 ≤ b) (h1 : b < 2147483647) : IntMulOk a b := PySem.IntMulOk.of_right (PySem.intBits_le_64 (by omega) (by omega))

end
section
open PySem PySem.W PyProof.Rows PySem.Calls PySem.Spec
/-- a made object of class C, its dict's entries in their order -/
inductive O_I1 (C : Addr) (k1 : Str) (pl v1 : Value) (led : Led) : Value → Prop
  | mk {a d n h0 h1 t0 t1} : (a, instObj C d) ∈ led → (d, dictOf [ent h0 "place" t0 pl, ent h1 k1 t1 v1] n) ∈ led → O_I1 C k1 pl v1 led (.ref a)
inductive O_I2 (C : Addr) (k1 k2 : Str) (pl v1 v2 : Value) (led : Led) : Value → Prop
  | mk {a d n h0 h1 h2 t0 t1 t2} : (a, instObj C d) ∈ led → (d, dictOf [ent h0 "place" t0 pl, ent h1 k1 t1 v1, ent h2 k2 t2 v2] n) ∈ led → O_I2 C k1 k2 pl v1 v2 led (.ref a)
inductive O_L1 (C : Addr) (k1 kx : Str) (pl v1 : Value) (led : Led) : Value → Prop
  | mk {a d n h0 h1 h2 t0 t1 t2 u} : (a, instObj C d) ∈ led → (d, dictOf [ent h0 "place" t0 pl, ent h1 k1 t1 v1, ent h2 kx t2 (.ref u)] n) ∈ led → O_L1 C k1 kx pl v1 led (.ref a)
inductive O_L2 (C : Addr) (k1 k2 kx : Str) (pl v1 v2 : Value) (led : Led) : Value → Prop
  | mk {a d n h0 h1 h2 h3 t0 t1 t2 t3 u} : (a, instObj C d) ∈ led → (d, dictOf [ent h0 "place" t0 pl, ent h1 k1 t1 v1, ent h2 k2 t2 v2, ent h3 kx t3 (.ref u)] n) ∈ led → O_L2 C k1 k2 kx pl v1 v2 led (.ref a)
abbrev O_var (v1 : Value) : Led → Value → Prop := O_L1 252 "name" "uses" .none v1
abbrev O_con (v1 : Value) : Led → Value → Prop := O_L1 279 "name" "uses" .none v1
abbrev O_lit (v1 v2 : Value) : Led → Value → Prop := O_I2 306 "kind" "value" .none v1 v2
abbrev O_app (v1 v2 : Value) : Led → Value → Prop := O_I2 333 "fun" "arg" .none v1 v2
abbrev O_op (v1 v2 : Value) : Led → Value → Prop := O_I2 360 "name" "is_con" .none v1 v2
abbrev O_infix (v1 : Value) : Led → Value → Prop := O_I1 387 "items" .none v1
abbrev O_infixP (v1 pl : Value) : Led → Value → Prop := O_I1 387 "items" pl v1
abbrev O_tup (v1 : Value) : Led → Value → Prop := O_I1 414 "items" .none v1
abbrev O_paren (v1 : Value) : Led → Value → Prop := O_I1 468 "expr" .none v1
abbrev O_pvar (v1 pl : Value) : Led → Value → Prop := O_I1 495 "name" pl v1
abbrev O_plit (v1 v2 pl : Value) : Led → Value → Prop := O_I2 549 "kind" "value" pl v1 v2
abbrev O_pcon (v1 v2 pl : Value) : Led → Value → Prop := O_I2 576 "name" "args" pl v1 v2
abbrev O_pparen (v1 pl : Value) : Led → Value → Prop := O_I1 765 "pattern" pl v1
abbrev O_ptup (v1 pl : Value) : Led → Value → Prop := O_I1 603 "items" pl v1
abbrev O_pinfix (v1 pl : Value) : Led → Value → Prop := O_I1 738 "items" pl v1
abbrev O_funbind (v1 v2 pl : Value) : Led → Value → Prop := O_L2 112 "name" "clauses" "given" pl v1 v2
abbrev O_clause (v1 v2 pl : Value) : Led → Value → Prop := O_I2 139 "patterns" "rhs" pl v1 v2
abbrev O_patbind (v1 v2 pl : Value) : Led → Value → Prop := O_L2 166 "pattern" "rhs" "given" pl v1 v2
abbrev O_rhs (v1 v2 : Value) : Led → Value → Prop := O_I2 191 "guarded" "where" .none v1 v2
abbrev O_binds (v1 v2 : Value) : Led → Value → Prop := O_L2 218 "sigs" "binds" "groups" .none v1 v2
structure Mks (w : World) : Prop where
  c_var : ∀ (v1 : Value), RD w 3 252 [v1] [] (O_var v1)
  c_con : ∀ (v1 : Value), RD w 3 279 [v1] [] (O_con v1)
  c_lit : ∀ (v1 v2 : Value), RD w 3 306 [v1, v2] [] (O_lit v1 v2)
  c_app : ∀ (v1 v2 : Value), RD w 3 333 [v1, v2] [] (O_app v1 v2)
  c_op : ∀ (v1 v2 : Value), RD w 3 360 [v1, v2] [] (O_op v1 v2)
  c_infix : ∀ (v1 : Value), RD w 3 387 [v1] [] (O_infix v1)
  c_infixP : ∀ (v1 pl : Value), RD w 3 387 [v1, pl] [] (O_infixP v1 pl)
  c_tup : ∀ (v1 : Value), RD w 3 414 [v1] [] (O_tup v1)
  c_paren : ∀ (v1 : Value), RD w 3 468 [v1] [] (O_paren v1)
  c_pvar : ∀ (v1 pl : Value), RD w 3 495 [v1, pl] [] (O_pvar v1 pl)
  c_plit : ∀ (v1 v2 pl : Value), RD w 3 549 [v1, v2, pl] [] (O_plit v1 v2 pl)
  c_pcon : ∀ (v1 v2 pl : Value), RD w 3 576 [v1, v2, pl] [] (O_pcon v1 v2 pl)
  c_pparen : ∀ (v1 pl : Value), RD w 3 765 [v1, pl] [] (O_pparen v1 pl)
  c_ptup : ∀ (v1 pl : Value), RD w 3 603 [v1, pl] [] (O_ptup v1 pl)
  c_pinfix : ∀ (v1 pl : Value), RD w 3 738 [v1, pl] [] (O_pinfix v1 pl)
  c_funbind : ∀ (v1 v2 pl : Value), RD w 3 112 [v1, v2, pl] [] (O_funbind v1 v2 pl)
  c_clause : ∀ (v1 v2 pl : Value), RD w 3 139 [v1, v2, pl] [] (O_clause v1 v2 pl)
  c_patbind : ∀ (v1 v2 pl : Value), RD w 3 166 [v1, v2, pl] [] (O_patbind v1 v2 pl)
  c_rhs : ∀ (v1 v2 : Value), RD w 3 191 [v1, v2] [] (O_rhs v1 v2)
  c_binds : ∀ (v1 v2 : Value), RD w 3 218 [v1, v2] [] (O_binds v1 v2)


section
variable {G : Gx} {ρ : Rho} {led : Led} {w : World} {n : Nat} {f C : Addr} {vs : List Value} {k1 k2 kx : Str} {pl v1 v2 : Value} {R : Value → Led → Prop}
theorem Ca.i1 (hw : G.w = w) (hn : 3 ≤ G.k) (c : RD w 3 f vs [] (O_I1 C k1 pl v1)) (h : ∀ tl a d n h0 h1 t0 t1, (a, instObj C d) ∈ tl → (d, dictOf [ent h0 "place" t0 pl, ent h1 k1 t1 v1] n) ∈ tl → R (.ref a) (tl ++ led)) : Ca G (.ref f) vs ρ led R :=
  .rd0 hw hn c fun v tl o => by cases o with | mk a b => exact h tl _ _ _ _ _ _ _ a b
theorem Ca.i2 (hw : G.w = w) (hn : 3 ≤ G.k) (c : RD w 3 f vs [] (O_I2 C k1 k2 pl v1 v2)) (h : ∀ tl a d n h0 h1 h2 t0 t1 t2, (a, instObj C d) ∈ tl → (d, dictOf [ent h0 "place" t0 pl, ent h1 k1 t1 v1, ent h2 k2 t2 v2] n) ∈ tl → R (.ref a) (tl ++ led)) : Ca G (.ref f) vs ρ led R :=
  .rd0 hw hn c fun v tl o => by cases o with | mk a b => exact h tl _ _ _ _ _ _ _ _ _ a b
theorem Ca.l1 (hw : G.w = w) (hn : 3 ≤ G.k) (c : RD w 3 f vs [] (O_L1 C k1 kx pl v1)) (h : ∀ tl a d n h0 h1 h2 t0 t1 t2 u, (a, instObj C d) ∈ tl → (d, dictOf [ent h0 "place" t0 pl, ent h1 k1 t1 v1, ent h2 kx t2 (.ref u)] n) ∈ tl → R (.ref a) (tl ++ led)) : Ca G (.ref f) vs ρ led R :=
  .rd0 hw hn c fun v tl o => by cases o with | mk a b => exact h tl _ _ _ _ _ _ _ _ _ _ a b
theorem Ca.l2 (hw : G.w = w) (hn : 3 ≤ G.k) (c : RD w 3 f vs [] (O_L2 C k1 k2 kx pl v1 v2)) (h : ∀ tl a d n h0 h1 h2 h3 t0 t1 t2 t3 u, (a, instObj C d) ∈ tl → (d, dictOf [ent h0 "place" t0 pl, ent h1 k1 t1 v1, ent h2 k2 t2 v2, ent h3 kx t3 (.ref u)] n) ∈ tl → R (.ref a) (tl ++ led)) : Ca G (.ref f) vs ρ led R :=
  .rd0 hw hn c fun v tl o => by cases o with | mk a b => exact h tl _ _ _ _ _ _ _ _ _ _ _ _ a b
end
inductive O_true : Led → Value → Prop
  | mk {led} : O_true led (.bool true)
def PlainC (w : World) : Prop := ∀ (x : Str) (t : Tok), x ∈ PE.names → RD w 3 774 [.str x t] [] O_true
theorem PlainC.use {w : World} {x : Str} {t : Tok} (C : PlainC w) (h : x ∈ PE.names) : RD w 3 774 [.str x t] [] O_true := C x t h
inductive O_pat (p : PE) (led : Led) : Value → Prop
  | mk {a} : PatIn led a p → O_pat p led (.ref a)
def PatIH (w : World) (k : Nat) : Prop := ∀ p', p'.size < k → ∀ led a, PIn led a p' → RD w (6 * p'.size) 779 [.ref a] led (O_pat p')
theorem PatIH.use {w : World} {k : Nat} {p : PE} {led : Led} {a : Addr} (H : PatIH w k) (R : PIn led a p) (hs : p.size < k) : RD w (6 * p.size) 779 [.ref a] led (O_pat p) := H p hs led a R
def PatAll (w : World) : Prop := ∀ k, PatIH w k
theorem PatAll.use {w : World} {p : PE} {led : Led} {a : Addr} (H : PatAll w) (R : PIn led a p) : RD w (6 * p.size) 779 [.ref a] led (O_pat p) := H _ p (Nat.lt_succ_self _) led a R
inductive O_take (top : Int) : Led → Value → Prop
  | mk {d td} : 0 ≤ d → d < top → O_take top [] (.int d td)
def TakeC (w : World) : Prop := ∀ {S : Addr} {top : Int} {tt : Tok}, 2 ≤ top → top ≤ 8 → BX w 3 866 [.ref S, .int top tt] S [] (O_take top)
section
variable {G : Gx} {ρ : Rho} {led : Led} {w : World} {S : Addr} {tt : Tok} {R : Value → Led → Prop}
theorem Ca.take {top : Int} (C : TakeC w) (hw : G.w = w) (hn : 3 ≤ G.k) (hS : G.src = some S) (h1 : 2 ≤ top) (h2 : top ≤ 8) (h : ∀ d t, 0 ≤ d → d < top → R (.int d t) led) : Ca G (.ref 866) [.ref S, .int top tt] ρ led R :=
  .bx hw hn hS (C h1 h2) (fun _ h => (nomatch h)) fun v tl o => by cases o with | mk a b => exact h _ _ a b
theorem Ca.t2 (C : TakeC w) (hw : G.w = w) (hn : 3 ≤ G.k) (hS : G.src = some S) (h0 : ∀ t, R (.int 0 t) led) (h1 : ∀ t, R (.int 1 t) led) : Ca G (.ref 866) [.ref S, .int 2 tt] ρ led R :=
  .take C hw hn hS (by decide) (by decide) fun d t a b => by
    rcases (by omega : d = 0 ∨ d = 1) with rfl | rfl
    · exact h0 t
    · exact h1 t
theorem Ca.t4 (C : TakeC w) (hw : G.w = w) (hn : 3 ≤ G.k) (hS : G.src = some S) (h0 : ∀ t, R (.int 0 t) led) (h1 : ∀ t, R (.int 1 t) led) (h2 : ∀ t, R (.int 2 t) led) (h3 : ∀ t, R (.int 3 t) led) : Ca G (.ref 866) [.ref S, .int 4 tt] ρ led R :=
  .take C hw hn hS (by decide) (by decide) fun d t a b => by
    rcases (by omega : d = 0 ∨ d = 1 ∨ d = 2 ∨ d = 3) with rfl | rfl | rfl | rfl
    · exact h0 t
    · exact h1 t
    · exact h2 t
    · exact h3 t
theorem Ca.t5 (C : TakeC w) (hw : G.w = w) (hn : 3 ≤ G.k) (hS : G.src = some S) (h0 : ∀ t, R (.int 0 t) led) (h1 : ∀ t, R (.int 1 t) led) (h2 : ∀ t, R (.int 2 t) led) (h3 : ∀ t, R (.int 3 t) led) (h4 : ∀ t, R (.int 4 t) led) : Ca G (.ref 866) [.ref S, .int 5 tt] ρ led R :=
  .take C hw hn hS (by decide) (by decide) fun d t a b => by
    rcases (by omega : d = 0 ∨ d = 1 ∨ d = 2 ∨ d = 3 ∨ d = 4) with rfl | rfl | rfl | rfl | rfl
    · exact h0 t
    · exact h1 t
    · exact h2 t
    · exact h3 t
    · exact h4 t
theorem Ca.t7 (C : TakeC w) (hw : G.w = w) (hn : 3 ≤ G.k) (hS : G.src = some S) (h0 : ∀ t, R (.int 0 t) led) (h1 : ∀ t, R (.int 1 t) led) (h2 : ∀ t, R (.int 2 t) led) (h3 : ∀ t, R (.int 3 t) led) (h4 : ∀ t, R (.int 4 t) led) (h5 : ∀ t, R (.int 5 t) led) (h6 : ∀ t, R (.int 6 t) led) : Ca G (.ref 866) [.ref S, .int 7 tt] ρ led R :=
  .take C hw hn hS (by decide) (by decide) fun d t a b => by
    rcases (by omega : d = 0 ∨ d = 1 ∨ d = 2 ∨ d = 3 ∨ d = 4 ∨ d = 5 ∨ d = 6) with rfl | rfl | rfl | rfl | rfl | rfl | rfl
    · exact h0 t
    · exact h1 t
    · exact h2 t
    · exact h3 t
    · exact h4 t
    · exact h5 t
    · exact h6 t
/-- nothing, or more -/
theorem Ca.tz {top : Int} (C : TakeC w) (hw : G.w = w) (hn : 3 ≤ G.k) (hS : G.src = some S) (h1 : 2 ≤ top) (h2 : top ≤ 8) (h0 : ∀ t, R (.int 0 t) led) (hp : ∀ t d, (d == 0) = false → decide (0 < d) = true → R (.int d t) led) : Ca G (.ref 866) [.ref S, .int top tt] ρ led R :=
  .take C hw hn hS h1 h2 fun d t a b => by
    rcases (by omega : d = 0 ∨ 0 < d) with rfl | h
    · exact h0 t
    · exact hp t d (beq_eq_false_iff_ne.mpr (by omega)) (decide_eq_true h)
end
inductive O_one (xs : List Str) : Led → Value → Prop
  | mk {x t} : x ∈ xs → O_one xs [] (.str x t)
def OneC (w : World) : Prop := (∀ {S l : Addr} {a b : Str} {ta tb : Tok} {n : Nat}, BX w 6 873 [.ref S, .ref l] S [(l, listOf #[.str a ta, .str b tb] n)] (O_one [a, b])) ∧
  ∀ {S l : Addr} {a b c d : Str} {ta tb tc td : Tok} {n : Nat}, BX w 6 873 [.ref S, .ref l] S [(l, listOf #[.str a ta, .str b tb, .str c tc, .str d td] n)] (O_one [a, b, c, d])

theorem OneC.use2 {w : World} (C : OneC w) {S l : Addr} {a b : Str} {ta tb : Tok} {n : Nat} : BX w 6 873 [.ref S, .ref l] S [(l, listOf #[.str a ta, .str b tb] n)] (O_one [a, b]) := C.1
theorem OneC.use4 {w : World} (C : OneC w) {S l : Addr} {a b c d : Str} {ta tb tc td : Tok} {n : Nat} : BX w 6 873 [.ref S, .ref l] S [(l, listOf #[.str a ta, .str b tb, .str c tc, .str d td] n)] (O_one [a, b, c, d]) := C.2
theorem Ca.one {G : Gx} {ρ : Rho} {led : Led} {w : World} {S l : Addr} {n : Nat} {vs : List Value} {xs : List Str} {R : Value → Led → Prop} (hw : G.w = w) (hn : 6 ≤ G.k) (hS : G.src = some S) (m : (l, listOf vs.toArray n) ∈ led) (C : BX w 6 873 [.ref S, .ref l] S [(l, listOf vs.toArray n)] (O_one xs)) (h : ∀ x t, x ∈ xs → R (.str x t) led) : Ca G (.ref 873) [.ref S, .ref l] ρ led R :=
  .bx hw hn hS C (fun q hq => by rcases List.mem_cons.mp hq with rfl | hq; (· exact m); cases hq) fun v tl o => by cases o with | mk a => exact h _ _ a
def PE.atoms : List PE := [.lit "int" 7, .con "Nil", .paren (.app "Just" (.var "y")), .tup (.var "a") (.chr "char" "c"), .var "x"]
inductive O_atom (tl : Led) : Value → Prop
  | mk {D n b pr p} : (D, pair (.ref b) pr n) ∈ tl → PIn tl b p → DatIn tl pr p.row → p ∈ PE.atoms → O_atom tl (.ref D)
def AtomC (w : World) : Prop := ∀ {S : Addr}, BX w 12 880 [.ref S] S [] O_atom
theorem Ca.atom {G : Gx} {ρ : Rho} {led : Led} {w : World} {S : Addr} {R : Value → Led → Prop} (C : AtomC w) (hw : G.w = w) (hn : 12 ≤ G.k) (hS : G.src = some S) (h : ∀ tl D n b pr p, (D, pair (.ref b) pr n) ∈ tl → PIn tl b p → DatIn tl pr p.row → p ∈ PE.atoms → R (.ref D) (tl ++ led)) : Ca G (.ref 880) [.ref S] ρ led R :=
  .bx hw hn hS C (fun _ h => (nomatch h)) fun v tl o => by cases o with | mk a b c d => exact h _ _ _ _ _ _ a b c d
/-- one side of an operator: its items -/
inductive SideIn (led : Led) : List Value → PE → Prop
  | neg {o od on g1 g2 g3 s1 s2 s3 to b bd bn f1 f2 f3 r1 r2 r3 tk ti} : (o, instObj 360 od) ∈ led → (od, dictOf [ent g1 "place" s1 .none, ent g2 "name" s2 (.str "-" to), ent g3 "is_con" s3 (.bool false)] on) ∈ led →
      (b, instObj 306 bd) ∈ led → (bd, dictOf [ent f1 "place" r1 .none, ent f2 "kind" r2 (.str "int" tk), ent f3 "value" r3 (.int 3 ti)] bn) ∈ led → SideIn led [.ref o, .ref b] .neg
  | one {b p} : PIn led b p → p ∈ PE.atoms → SideIn led [.ref b] p
  | two {b c o od on g1 g2 g3 s1 s2 s3 to p q x} : (o, instObj 360 od) ∈ led → (od, dictOf [ent g1 "place" s1 .none, ent g2 "name" s2 (.str x to), ent g3 "is_con" s3 (.bool true)] on) ∈ led → PIn led b p → PIn led c q → p ∈ PE.atoms → q ∈ PE.atoms → x ∈ ([":", "Pair"] : List Str) →
      SideIn led [.ref b, .ref o, .ref c] (.two p x q)
theorem SideIn.mono {led led' : Led} {vs : List Value} {p : PE} (h : SideIn led vs p) (hs : ∀ q ∈ led, q ∈ led') : SideIn led' vs p := by
  cases h with
  | neg a b c d => exact .neg (hs _ a) (hs _ b) (hs _ c) (hs _ d)
  | one a b => exact .one (a.mono hs) b
  | two a b c d e f g => exact .two (hs _ a) (hs _ b) (c.mono hs) (d.mono hs) e f g
theorem SideIn.len {led : Led} {vs : List Value} {p : PE} (h : SideIn led vs p) : vs.length ≤ 3 := by
  cases h <;> simp
inductive O_side (tl : Led) : Value → Prop
  | mk {D n l k vs pr p} : (D, pair (.ref l) pr n) ∈ tl → (l, listOf vs.toArray k) ∈ tl → SideIn tl vs p → DatIn tl pr p.row → vs.length ≤ 3 → O_side tl (.ref D)
def SideC (w : World) : Prop := ∀ {S : Addr}, BX w 18 887 [.ref S] S [] O_side
theorem Ca.side {G : Gx} {ρ : Rho} {led : Led} {w : World} {S : Addr} {R : Value → Led → Prop} (C : SideC w) (hw : G.w = w) (hn : 18 ≤ G.k) (hS : G.src = some S) (h : ∀ tl D n l k vs pr p, (D, pair (.ref l) pr n) ∈ tl → (l, listOf vs.toArray k) ∈ tl → SideIn tl vs p → DatIn tl pr p.row → vs.length ≤ 3 → R (.ref D) (tl ++ led)) : Ca G (.ref 887) [.ref S] ρ led R :=
  .bx hw hn hS C (fun _ h => (nomatch h)) fun v tl o => by cases o with | mk a b c d e => exact h _ _ _ _ _ _ _ _ a b c d e
end
section
open PySem PySem.W PyProof.Rows PySem.Calls PySem.Spec
def nodeDs : List Addr := [252, 279, 306, 333, 360, 387, 414, 468, 495, 549, 576, 603, 738, 765, 112, 166, 139, 191, 218]
def nodeCs : List Addr := [252, 279, 306, 333, 360, 387, 414, 441, 468, 112, 166]
def nodeAs : List Str := ["place", "name", "kind", "value", "uses", "fun", "arg", "is_con", "items", "expr", "pattern", "args", "clauses", "rhs", "patterns", "guarded", "where", "sigs", "binds"]
def okD (K : Frag) (D : Addr) : Bool := plainGet K D "__class__" && hasDictIn K D && findIn K (.ref D) "__class__" == some (some (.builtin "object.__class__")) && mroIn K D (.type "object") == some true && plainGet K D "x"
def okA (K : Frag) (D : Addr) : Bool := nodeAs.all fun x => findIn K (.ref D) x == some none
theorem isi_tab (P : Params) : (nodeDs.all fun D => nodeCs.all fun C => kitOne (KF P) (.ref D) (.ref C) == some (D == C)) = true := by kernel_rfl
theorem isi_tabL (P : Params) : (nodeDs.all fun D => kitAny (KF P) (.ref D) [.ref 522, .ref 657, .ref 684, .ref 711] == some false) = true := by kernel_rfl
theorem okD_tab (P : Params) : (nodeDs.all fun D => okD (KF P) D) = true := by kernel_rfl
theorem okA_tab (P : Params) : (nodeDs.all fun D => okA (KF P) D) = true := by kernel_rfl
theorem okG (P : Params) : specialIn (KF P) (.builtin "object.__class__") "__get__" = some (some (.builtin "getset_descriptor.__get__")) ∧ takesIn (KF P) (.builtin "object.__class__") = some true := by
  refine ⟨?_, ?_⟩ <;> kernel_rfl
section
variable {prog : Program} {w : World} {A : Around} {E : Value → Shared → Prop} {s : Shared} {h₀ : Heap} {L a d D C : Addr} {m : Str → Option Value} {led : Led} {od : Obj} {Q : Value → Shared → Prop}
theorem of_all {α : Type} [BEq α] [LawfulBEq α] {l : List α} {f : α → Bool} (h : l.all f = true) {x : α} (hx : l.contains x = true) : f x = true := List.all_eq_true.mp h x (List.contains_iff_mem.mp hx)
theorem kx (hD : nodeDs.contains D = true) : KitX (KF w.params) (.ref a) (.ref D) (fun h => InstAt h a (instObj D d) D (some od)) := by
  have h := of_all (okD_tab w.params) hD
  unfold okD at h
  simp only [Bool.and_eq_true, beq_iff_eq] at h
  obtain ⟨⟨⟨⟨h1, h2⟩, h3⟩, h4⟩, _⟩ := h
  exact kitx_own h1 h2 h3 (okG _).1 (okG _).2 h4
theorem isi_any {b : Bool} (N : News h₀ L s.heap led) (F : Fr h₀ L s.heap m) (X : (KF w.params).In h₀) (m1 : (a, instObj D d) ∈ led) (m2 : (d, od) ∈ led) (hD : nodeDs.contains D = true) (hC : nodeCs.contains C = true) (hb : (D == C) = b)
    (h : ∀ tk, Q (.bool b) { s with toks := tk }) : wpAny (model prog w) A (call (.builtin "isinstance") [.ref a, .ref C]) Q E s :=
  kia_one (kx (w := w) (d := d) (od := od) hD) (X.keeps F.keep) (InstAt.of_news N m1 m2) (hb ▸ beq_iff_eq.mp (of_all (of_all (isi_tab w.params) hD) hC)) (by intro q; cases q) h
theorem isi_tup {tp : Addr} {n : Nat} (N : News h₀ L s.heap led) (F : Fr h₀ L s.heap m) (X : (KF w.params).In h₀) (m1 : (a, instObj D d) ∈ led) (m2 : (d, od) ∈ led) (mt : (tp, (⟨.type "tuple", none, .seq #[.ref 522, .ref 657, .ref 684, .ref 711] n, #[]⟩ : Obj)) ∈ led) (hD : nodeDs.contains D = true)
    (h : ∀ tk, Q (.bool false) { s with toks := tk }) : wpAny (model prog w) A (call (.builtin "isinstance") [.ref a, .ref tp]) Q E s :=
  kia_tup (kx (w := w) (d := d) (od := od) hD) (X.keeps F.keep) (InstAt.of_news N m1 m2) (N _ mt).1 (beq_iff_eq.mp (of_all (isi_tabL w.params) hD)) (by intro q; cases q) h
theorem PIn.node {led : Led} {b : Addr} {p : PE} (h : PIn led b p) : ∃ D d od, (b, instObj D d) ∈ led ∧ (d, od) ∈ led ∧ nodeDs.contains D = true ∧ (D == 360) = false := by
  cases h with
  | lit a b => exact ⟨_, _, _, a, b, rfl, rfl⟩
  | chr a b => exact ⟨_, _, _, a, b, rfl, rfl⟩
  | con a b => exact ⟨_, _, _, a, b, rfl, rfl⟩
  | var a b _ => exact ⟨_, _, _, a, b, rfl, rfl⟩
  | app a b _ _ _ => exact ⟨_, _, _, a, b, rfl, rfl⟩
  | paren a b _ => exact ⟨_, _, _, a, b, rfl, rfl⟩
  | tup a b _ _ _ => exact ⟨_, _, _, a, b, rfl, rfl⟩
  | neg a b _ _ _ _ _ => exact ⟨_, _, _, a, b, rfl, rfl⟩
  | two a b _ _ _ _ _ => exact ⟨_, _, _, a, b, rfl, rfl⟩
theorem attr_N {es : List DictEntry} {n : Nat} {x : Str} {v : Value} {expr : Bool} (N : News h₀ L s.heap led) (F : Fr h₀ L s.heap m) (X : (KF w.params).In h₀) (m1 : (a, instObj D d) ∈ led) (m2 : (d, dictOf es n) ∈ led) (hD : nodeDs.contains D = true) (hx : nodeAs.contains x = true)
    (hl : getL x es = some (some v)) (hv : handedIn v = true) (h : Q v { s with toks := s.toks + 1 }) : wpAny (model prog w) A (getAttr (.ref a) x expr) Q E s := by
  have h1 := of_all (okD_tab w.params) hD
  have h2 := of_all (of_all (okA_tab w.params) hD) hx
  unfold okD at h1
  simp only [Bool.and_eq_true, beq_iff_eq] at h1 h2
  exact get_own F X (InstAt.of_news N m1 m2) h1.2 h1.1.1.1.2 h2 rfl hl hv h
theorem isi_tabA (P : Params) : (nodeDs.all fun D => kitAny (KF P) (.ref D) [.ref 279, .ref 333] == some (D == 279 || D == 333)) = true := by kernel_rfl
theorem isi_tupA {tp : Addr} {n : Nat} {b : Bool} (N : News h₀ L s.heap led) (F : Fr h₀ L s.heap m) (X : (KF w.params).In h₀) (m1 : (a, instObj D d) ∈ led) (m2 : (d, od) ∈ led) (mt : (tp, (⟨.type "tuple", none, .seq #[.ref 279, .ref 333] n, #[]⟩ : Obj)) ∈ led) (hD : nodeDs.contains D = true) (hb : (D == 279 || D == 333) = b)
    (h : ∀ tk, Q (.bool b) { s with toks := tk }) : wpAny (model prog w) A (call (.builtin "isinstance") [.ref a, .ref tp]) Q E s :=
  kia_tup (kx (w := w) (d := d) (od := od) hD) (X.keeps F.keep) (InstAt.of_news N m1 m2) (N _ mt).1 (hb ▸ beq_iff_eq.mp (of_all (isi_tabA w.params) hD)) (by intro q; cases q) h
end
def rowFn : PE → Addr
  | .lit .. => 546
  | .chr .. => 546
  | .con .. => 573
  | .var .. => 492
  | .app .. => 573
  | .paren .. => 762
  | .tup .. => 600
  | .neg => 546
  | .two .. => 735
def rowD : List (Addr × Addr) := [(306, 303), (218, 215), (191, 188), (549, 546), (576, 573), (495, 492), (765, 762), (603, 600), (738, 735), (360, 357)]
theorem row_tab (P : Params) : (rowD.all fun q => plainGet (KF P) q.1 "row" && findIn (KF P) (.ref q.1) "row" == some (some (.ref q.2)) && isFn (KF P) (.ref q.2)) = true := by kernel_rfl
section
variable {prog : Program} {w : World} {A : Around} {E : Value → Shared → Prop} {s : Shared} {h₀ : Heap} {L a d D f : Addr} {m : Str → Option Value} {led led' : Led} {Q : Value × List Value → Shared → Prop}
theorem row_at {es : List DictEntry} {n : Nat} {pl : Sem Bool} (N : News h₀ L s.heap led) (F : Fr h₀ L s.heap m) (X : (KF w.params).In h₀) (m1 : (a, instObj D d) ∈ led) (m2 : (d, dictOf es n) ∈ led) (hD : rowD.contains (D, f) = true)
    (hl : getL "row" es = some none) (h : Q (.ref f, [.ref a]) s) : wpAny (model prog w) A (getMethod (.ref a) "row" pl) Q E s := by
  have h1 := of_all (row_tab w.params) hD
  simp only [Bool.and_eq_true, beq_iff_eq] at h1
  exact method_inst F X (InstAt.of_news N m1 m2) h1.1.1 h1.1.2 h1.2 hl h
end
theorem keepRow (P : Params) (p : PE) : keepIn (KF P) (.ref (rowFn p)) = true := by
  cases p <;> kernel_rfl
inductive O_row (d : Dat) (led : Led) (r : Value) : Prop
  | mk : DatIn led r d → O_row d led r
def OpRowC (w : World) : Prop := ∀ {led : Led} {o od : Addr} {on : Nat} {g1 g2 g3 : Int} {s1 s2 s3 to : Tok} {x : Str} {c : Bool}, (o, instObj 360 od) ∈ led → (od, dictOf [ent g1 "place" s1 .none, ent g2 "name" s2 (.str x to), ent g3 "is_con" s3 (.bool c)] on) ∈ led →
  RD w 3 357 [.ref o] led (O_row (.tuple [.str "op", .str x, .bool c]))
theorem OpRowC.use {w : World} (C : OpRowC w) {led : Led} {o od : Addr} {on : Nat} {g1 g2 g3 : Int} {s1 s2 s3 to : Tok} {x : Str} {c : Bool} (m1 : (o, instObj 360 od) ∈ led) (m2 : (od, dictOf [ent g1 "place" s1 .none, ent g2 "name" s2 (.str x to), ent g3 "is_con" s3 (.bool c)] on) ∈ led) :
  RD w 3 357 [.ref o] led (O_row (.tuple [.str "op", .str x, .bool c])) := C m1 m2
def RowIH (w : World) (k : Nat) : Prop := ∀ p', p'.size < k → ∀ led a, PatIn led a p' → RD w (6 * p'.size) (rowFn p') [.ref a] led (O_row p'.row)
theorem RowIH.use {w : World} {k : Nat} {p : PE} {led : Led} {a : Addr} (H : RowIH w k) (R : PatIn led a p) (hs : p.size < k) : RD w (6 * p.size) (rowFn p) [.ref a] led (O_row p.row) := H p hs led a R
def RowAll (w : World) : Prop := ∀ k, RowIH w k
theorem RowAll.use {w : World} {p : PE} {led : Led} {a : Addr} (H : RowAll w) (R : PatIn led a p) : RD w (6 * p.size) (rowFn p) [.ref a] led (O_row p.row) := H _ p (Nat.lt_succ_self _) led a R

/-- data that the comparing rules bear -/
noncomputable def kOk : Nat → Dat → Bool
  | _, .none => true
  | _, .bool _ => true
  | _, .int _ => true
  | _, .str x => PyData.strOk x
  | n + 1, .tuple ds => ds.all (kOk n)
  | n + 1, .list ds => ds.all (kOk n)
  | _, _ => false
section
variable {h₀ h : Heap} {L : Addr} {news : Led}
mutual
theorem k_reads (N : News h₀ L h news) : ∀ {v : Value} {d : Dat} (n : Nat), DatIn news v d → kOk n d = true → ∃ as, Reads h v (kqdP d) as
  | _, _, _, .none, _ => ⟨_, Reads.none⟩
  | _, _, _, .bool b, _ => ⟨_, Reads.bool b⟩
  | _, _, _, .int i t, _ => ⟨_, Reads.int i t⟩
  | _, _, _, .str x t, _ => ⟨_, Reads.str x t⟩
  | _, _, n, .bytes _ _, hk => by cases n <;> simp [kOk] at hk
  | _, _, 0, .tuple _ _, hk => by simp [kOk] at hk
  | _, _, 0, .list _ _, hk => by simp [kOk] at hk
  | _, _, n + 1, .tuple hm r, hk => by
    obtain ⟨as, q⟩ := k_readsA N n r (by simpa [kOk] using hk)
    rw [kqdP]
    exact ⟨as, reads_tuple_at (N.get hm) rfl rfl (by simpa using q)⟩
  | _, _, n + 1, .list hm r, hk => by
    obtain ⟨as, q⟩ := k_readsA N n r (by simpa [kOk] using hk)
    rw [kqdP]
    exact ⟨_, reads_list_at (N.get hm) rfl rfl (by simpa [W.listOf] using q)⟩
theorem k_readsA (N : News h₀ L h news) : ∀ {vs : List Value} {ds : List Dat} (n : Nat), DatAll news vs ds → (∀ d ∈ ds, kOk n d = true) → ∃ as, ReadsAll h vs (kqdPs ds) as
  | _, _, _, .nil, _ => ⟨_, ReadsAll.nil⟩
  | _, _, n, .cons hd r, hk => by
    obtain ⟨as, q⟩ := k_reads N n hd (hk _ (.head _))
    obtain ⟨bs, p⟩ := k_readsA N n r fun d hm => hk d (.tail _ hm)
    rw [kqdPs]
    exact ⟨_, ReadsAll.cons q p⟩
end
end
theorem k_lay : ∀ (n : Nat) (d : Dat), kOk n d = true → (kqdP d).canLay0 = true ∧ (kqdP d).depth ≤ n := by
  have all : ∀ (n : Nat), (∀ d, kOk n d = true → (kqdP d).canLay0 = true ∧ (kqdP d).depth ≤ n) → ∀ ds : List Dat, (∀ d ∈ ds, kOk n d = true) → PyData.canLayAll0 (kqdPs ds) = true ∧ PyData.depthAll (kqdPs ds) ≤ n := by
    intro n ih ds
    induction ds with
    | nil => intro _; simp [kqdPs, PyData.canLayAll0, PyData.depthAll]
    | cons d ds hi =>
      intro h
      have h1 := ih d (h d (.head _))
      have h2 := hi fun e he => h e (.tail _ he)
      simp only [kqdPs, PyData.canLayAll0, PyData.depthAll, h1.1, h2.1, Bool.and_self, true_and]
      have a1 := h1.2
      have a2 := h2.2
      omega
  intro n
  induction n with
  | zero =>
    intro d h
    cases d <;> simp_all [kOk, kqdP, PyData.canLay0, PyData.depth]
  | succ n ih =>
    intro d h
    cases d with
    | none => simp [kqdP, PyData.canLay0, PyData.depth]
    | bool b => simp [kqdP, PyData.canLay0, PyData.depth]
    | int i => simp [kqdP, PyData.canLay0, PyData.depth]
    | str x => simp [kOk] at h; simp [kqdP, PyData.canLay0, PyData.depth, h]
    | bytes b => simp [kOk] at h
    | tuple ds =>
      have q := all n ih ds (by simpa [kOk] using h)
      have q2 := q.2
      simp only [kqdP, PyData.canLay0, PyData.depth, q.1, true_and]
      omega
    | list ds =>
      have q := all n ih ds (by simpa [kOk] using h)
      have q2 := q.2
      simp only [kqdP, PyData.canLay0, PyData.depth, q.1, true_and]
      omega
theorem k_same : ∀ (n : Nat) (d : Dat), kOk n d = true → PyData.eqv (kqdP d) (kqdP d) = true := by
  have all : ∀ (n : Nat), (∀ d, kOk n d = true → PyData.eqv (kqdP d) (kqdP d) = true) → ∀ ds : List Dat, (∀ d ∈ ds, kOk n d = true) → PyData.eqvAll (kqdPs ds) (kqdPs ds) = true := by
    intro n ih ds
    induction ds with
    | nil => intro _; simp [kqdPs, PyData.eqvAll]
    | cons d ds hi =>
      intro h
      simp only [kqdPs, PyData.eqvAll, ih d (h d (.head _)), hi fun e he => h e (.tail _ he), Bool.and_self]
  intro n
  induction n with
  | zero =>
    intro d h
    cases d <;> simp_all [kOk, kqdP, PyData.eqv]
  | succ n ih =>
    intro d h
    cases d with
    | tuple ds => simp only [kqdP, PyData.eqv]; exact all n ih ds (by simpa [kOk] using h)
    | list ds => simp only [kqdP, PyData.eqv]; exact all n ih ds (by simpa [kOk] using h)
    | _ => simp_all [kOk, kqdP, PyData.eqv]
theorem k_shaped {n : Nat} {d : Dat} (h : kOk n d = true) (hn : n ≤ 60) : SeqAt.shaped (kqdP d) = true := by
  have l := k_lay n d h
  unfold SeqAt.shaped; rw [l.1, Bool.true_and]; exact decide_eq_true (Nat.le_trans l.2 (by omega))
section
variable {prog : Program} {w : World} {A : Around} {E : Value → Shared → Prop} {s : Shared} {h₀ : Heap} {L : Addr} {n₁ n₂ led : Led} {x y : Value} {d : Dat} {n : Nat} {Q : Value → Shared → Prop}
theorem dat_eq (N : News h₀ L s.heap led) (Dx : DatIn n₁ x d) (sx : ∀ q ∈ n₁, q ∈ led) (Dy : DatIn n₂ y d) (sy : ∀ q ∈ n₂, q ∈ led) (ok : kOk n d = true) (hn : n ≤ 60) (hu : A.units + 64 < cLine) (h : Q (.bool true) s) :
    wpAny (model prog w) A (compareOp .Eq x y) Q E s := by
  obtain ⟨as, ra⟩ := k_reads N n (Dx.mono sx) ok
  obtain ⟨bs, rb⟩ := k_reads N n (Dy.mono sy) ok
  exact eq_dataH ra rb (k_shaped ok hn) (k_shaped ok hn) hu (by rw [k_same n d ok]; exact h)
theorem dat_ne (N : News h₀ L s.heap led) (Dx : DatIn n₁ x d) (sx : ∀ q ∈ n₁, q ∈ led) (Dy : DatIn n₂ y d) (sy : ∀ q ∈ n₂, q ∈ led) (ok : kOk n d = true) (hn : n ≤ 60) (hu : A.units + 64 < cLine) (h : Q (.bool false) s) :
    wpAny (model prog w) A (compareOp .NotEq x y) Q E s := by
  obtain ⟨as, ra⟩ := k_reads N n (Dx.mono sx) ok
  obtain ⟨bs, rb⟩ := k_reads N n (Dy.mono sy) ok
  exact ne_dataH ra rb (k_shaped ok hn) (k_shaped ok hn) hu (by rw [k_same n d ok]; exact h)
end
end
section
open PySem PySem.W PyProof.Rows PySem.Calls PySem.Spec
inductive Due where
  | bad
  | none0
  | pat (p : PE)
  | fn (x : Str) (ps : List PE)
inductive VarAt (led : Led) : Addr → Str → Prop
  | mk {a d n h1 h2 h3 t1 t2 t3 tk x u} : (a, instObj 252 d) ∈ led → (d, dictOf [ent h1 "place" t1 .none, ent h2 "name" t2 (.str x tk), ent h3 "uses" t3 u] n) ∈ led → VarAt led a x
inductive OpAt (led : Led) : Addr → Str → Bool → Prop
  | mk {a d n h1 h2 h3 t1 t2 t3 tk x c} : (a, instObj 360 d) ∈ led → (d, dictOf [ent h1 "place" t1 .none, ent h2 "name" t2 (.str x tk), ent h3 "is_con" t3 (.bool c)] n) ∈ led → OpAt led a x c
inductive AppAt (led : Led) : Addr → Addr → Addr → Prop
  | mk {a d n h1 h2 h3 t1 t2 t3 f b} : (a, instObj 333 d) ∈ led → (d, dictOf [ent h1 "place" t1 .none, ent h2 "fun" t2 (.ref f), ent h3 "arg" t3 (.ref b)] n) ∈ led → AppAt led a f b
inductive ParenAt (led : Led) : Addr → Addr → Prop
  | mk {a d n h1 h2 t1 t2 b} : (a, instObj 468 d) ∈ led → (d, dictOf [ent h1 "place" t1 .none, ent h2 "expr" t2 (.ref b)] n) ∈ led → ParenAt led a b
section
variable {led led' : Led} (hs : ∀ q ∈ led, q ∈ led')
theorem VarAt.mono {a x} (h : VarAt led a x) (hs : ∀ q ∈ led, q ∈ led') : VarAt led' a x := by cases h with | mk a b => exact .mk (hs _ a) (hs _ b)
theorem OpAt.mono {a x c} (h : OpAt led a x c) (hs : ∀ q ∈ led, q ∈ led') : OpAt led' a x c := by cases h with | mk a b => exact .mk (hs _ a) (hs _ b)
theorem AppAt.mono {a x c} (h : AppAt led a x c) (hs : ∀ q ∈ led, q ∈ led') : AppAt led' a x c := by cases h with | mk a b => exact .mk (hs _ a) (hs _ b)
end
/-- a name put to none to three arguments -/
inductive NamedIn (led : Led) : Addr → Str → List PE → Prop
  | n0 {a x} : VarAt led a x → NamedIn led a x []
  | n1 {a x f b p} : AppAt led a f b → VarAt led f x → PIn led b p → NamedIn led a x [p]
  | n2 {a x f b p f2 b2 p2} : AppAt led a f b → AppAt led f f2 b2 → VarAt led f2 x → PIn led b p → PIn led b2 p2 → NamedIn led a x [p2, p]
  | n3 {a x f b p f2 b2 p2 f3 b3 p3} : AppAt led a f b → AppAt led f f2 b2 → AppAt led f2 f3 b3 → VarAt led f3 x → PIn led b p → PIn led b2 p2 → PIn led b3 p3 → NamedIn led a x [p3, p2, p]
theorem NamedIn.mono {led led' : Led} {a x ps} (h : NamedIn led a x ps) (hs : ∀ q ∈ led, q ∈ led') : NamedIn led' a x ps := by
  cases h with
  | n0 a => exact .n0 (a.mono hs)
  | n1 a b c => exact .n1 (a.mono hs) (b.mono hs) (c.mono hs)
  | n2 a b c d e => exact .n2 (a.mono hs) (b.mono hs) (c.mono hs) (d.mono hs) (e.mono hs)
  | n3 a b c d e f g => exact .n3 (a.mono hs) (b.mono hs) (c.mono hs) (d.mono hs) (e.mono hs) (f.mono hs) (g.mono hs)
inductive ZIn (led : Led) : List Value → Bool → Prop
  | no : ZIn led [] false
  | yes {o v} : OpAt led o "<>" false → VarAt led v "z" → ZIn led [.ref o, .ref v] true
theorem ZIn.mono {led led' : Led} {zs z} (h : ZIn led zs z) (hs : ∀ q ∈ led, q ∈ led') : ZIn led' zs z := by
  cases h with
  | no => exact .no
  | yes a b => exact .yes (a.mono hs) (b.mono hs)
/-- an operator between two sides, and at times a second one -/
inductive OperIn (led : Led) : Addr → Str → PE → PE → Bool → Prop
  | mk {a d n h1 h2 t1 t2 l k o x as bs zs p q z} : (a, instObj 387 d) ∈ led → (d, dictOf [ent h1 "place" t1 .none, ent h2 "items" t2 (.ref l)] n) ∈ led → (l, listOf (as ++ [.ref o] ++ bs ++ zs).toArray k) ∈ led →
      SideIn led as p → SideIn led bs q → OpAt led o x false → ZIn led zs z → OperIn led a x p q z
theorem OperIn.mk0 {led : Led} {a d n h1 h2 t1 t2 l k o x as bs p q} (m1 : (a, instObj 387 d) ∈ led) (m2 : (d, dictOf [ent h1 "place" t1 .none, ent h2 "items" t2 (.ref l)] n) ∈ led) (m3 : (l, listOf (as ++ [.ref o] ++ bs).toArray k) ∈ led)
    (s1 : SideIn led as p) (s2 : SideIn led bs q) (op : OpAt led o x false) : OperIn led a x p q false :=
  .mk (zs := []) m1 m2 (by rw [List.append_nil]; exact m3) s1 s2 op .no
theorem OperIn.mono {led led' : Led} {a x p q z} (h : OperIn led a x p q z) (hs : ∀ q ∈ led, q ∈ led') : OperIn led' a x p q z := by
  cases h with
  | mk a b c d e f g => exact .mk (hs _ a) (hs _ b) (hs _ c) (d.mono hs) (e.mono hs) (f.mono hs) (g.mono hs)
inductive BaseIn (led : Led) : Addr → Due → Prop
  | named {a x ps} : NamedIn led a x ps → x ∈ (["f", "g'", "f", "M.f"] : List Str) → (x == "M.f") = false → BaseIn led a (.fn x ps)
  | namedBad {a x ps} : NamedIn led a x ps → (x == "M.f") = true → BaseIn led a .bad
  | oper {a x p q} : OperIn led a x p q false → x ∈ (["+++", "div", "M.+", "-"] : List Str) → (x == "M.+") = false → BaseIn led a (.fn x [p, q])
  | operBad {a x p q z} : OperIn led a x p q z → (x == "M.+") = true → BaseIn led a .bad
  | operTwo {a x p q} : OperIn led a x p q true → BaseIn led a .bad
theorem BaseIn.mono {led led' : Led} {a due} (h : BaseIn led a due) (hs : ∀ q ∈ led, q ∈ led') : BaseIn led' a due := by
  cases h with
  | named a b c => exact .named (a.mono hs) b c
  | namedBad a b => exact .namedBad (a.mono hs) b
  | oper a b c => exact .oper (a.mono hs) b c
  | operBad a b => exact .operBad (a.mono hs) b
  | operTwo a => exact .operTwo (a.mono hs)
def Due.wrap (q : PE) : Due → Due
  | .bad => .bad
  | .none0 => .none0
  | .pat _ => .none0
  | .fn _ [] => .none0
  | .fn x (p :: ps) => .fn x (p :: ps ++ [q])
inductive LeftIn (led : Led) : Addr → Due → Prop
  | base {a due} : BaseIn led a due → LeftIn led a due
  | just {a p} : PIn led a (.app "Just" p) → LeftIn led a (.pat (.app "Just" p))
  | tupb {a p} : PIn led a (.tup p (.var "b")) → LeftIn led a (.pat (.tup p (.var "b")))
  | wrap {a c b i due q} : AppAt led a c b → ParenAt led c i → BaseIn led i due → PIn led b q → LeftIn led a (due.wrap q)
def Ok (p : PE) : Prop := kOk 12 p.row = true ∧ p.size ≤ 8
inductive DueIn (led : Led) : Value → Due → Prop
  | bad {t} : DueIn led (.str "wrong" t) .bad
  | none0 {t} : DueIn led (.str "wrong" t) .none0
  | pat {D n t r p} : (D, pair (.str "pattern" t) r n) ∈ led → DatIn led r p.row → Ok p → DueIn led (.ref D) (.pat p)
  | fn {D n x t l k rs ps} : (D, pair (.str x t) (.ref l) n) ∈ led → (l, listOf rs.toArray k) ∈ led → DatAll led rs (ps.map PE.row) → (∀ p ∈ ps, Ok p) → PyData.strOk x = true → DueIn led (.ref D) (.fn x ps)
theorem DueIn.mono {led led' : Led} {v due} (h : DueIn led v due) (hs : ∀ q ∈ led, q ∈ led') : DueIn led' v due := by
  cases h with
  | bad => exact .bad
  | none0 => exact .none0
  | pat a b c => exact .pat (hs _ a) (b.mono hs) c
  | fn a b c d e => exact .fn (hs _ a) (hs _ b) (c.mono hs) d e
theorem atoms_ok {p : PE} (h : p ∈ PE.atoms) : kOk 6 p.row = true := by
  unfold PE.atoms at h
  simp only [List.mem_cons, List.not_mem_nil, or_false] at h
  rcases h with rfl | rfl | rfl | rfl | rfl <;> kernel_rfl
theorem kOk_up : ∀ (n k : Nat) (d : Dat), n ≤ k → kOk n d = true → kOk k d = true := by
  intro n
  induction n with
  | zero => intro k d _ h; cases d <;> cases k <;> simp_all [kOk]
  | succ n ih =>
    intro k d hk h
    obtain ⟨k, rfl⟩ : ∃ j, k = j + 1 := ⟨k - 1, by omega⟩
    cases d with
    | tuple ds => simp only [kOk, List.all_eq_true] at h ⊢; exact fun x hx => ih k x (by omega) (h x hx)
    | list ds => simp only [kOk, List.all_eq_true] at h ⊢; exact fun x hx => ih k x (by omega) (h x hx)
    | _ => simp_all [kOk]
theorem atoms_size {p : PE} (h : p ∈ PE.atoms) : p.size ≤ 3 := by
  unfold PE.atoms at h
  simp only [List.mem_cons, List.not_mem_nil, or_false] at h
  rcases h with rfl | rfl | rfl | rfl | rfl <;> decide
theorem Ok.atom {p : PE} (h : p ∈ PE.atoms) : Ok p := ⟨kOk_up 6 12 _ (by decide) (atoms_ok h), Nat.le_trans (atoms_size h) (by decide)⟩
theorem strOk_sign {x : Str} (h : x ∈ ([":", "Pair"] : List Str)) : PyData.strOk x = true := by
  simp only [List.mem_cons, List.not_mem_nil, or_false] at h
  rcases h with rfl | rfl <;> kernel_rfl
theorem SideIn.ok {led : Led} {vs : List Value} {p : PE} (h : SideIn led vs p) : Ok p := by
  cases h with
  | neg => exact ⟨by kernel_rfl, by decide⟩
  | one _ h => exact Ok.atom h
  | two _ _ _ _ h1 h2 h3 =>
    have a := kOk_up 6 10 _ (by decide) (atoms_ok h1)
    have b := kOk_up 6 10 _ (by decide) (atoms_ok h2)
    have c := strOk_sign h3
    have e : PyData.strOk "pinfix" = true := by kernel_rfl
    have f : PyData.strOk "op" = true := by kernel_rfl
    have sa := atoms_size h1
    have sb := atoms_size h2
    refine ⟨?_, by simp only [PE.size]; omega⟩
    simp only [PE.row, kOk, List.all_cons, List.all_nil, Bool.and_true, Bool.and_eq_true]
    exact ⟨e, a, ⟨f, c⟩, b⟩
theorem strOk_oper {x : Str} (h : x ∈ (["+++", "div", "M.+", "-"] : List Str)) : PyData.strOk x = true := by
  simp only [List.mem_cons, List.not_mem_nil, or_false] at h
  rcases h with rfl | rfl | rfl | rfl <;> kernel_rfl
theorem strOk_name {x : Str} (h : x ∈ (["f", "g'", "f", "M.f"] : List Str)) : PyData.strOk x = true := by
  simp only [List.mem_cons, List.not_mem_nil, or_false] at h
  rcases h with rfl | rfl | rfl | rfl <;> kernel_rfl
theorem ok0 : ∀ p ∈ ([] : List PE), Ok p := fun _ h => nomatch h
theorem ok1 {p : PE} {ps : List PE} (h : Ok p) (k : ∀ p ∈ ps, Ok p) : ∀ q ∈ p :: ps, Ok q := fun q hq => (List.mem_cons.mp hq).elim (fun e => e ▸ h) fun h => k q h
inductive O_base (tl : Led) : Value → Prop
  | mk {D n b v due} : (D, pair (.ref b) v n) ∈ tl → BaseIn tl b due → DueIn tl v due → O_base tl (.ref D)
def OperC (w : World) : Prop := ∀ {S : Addr}, BX w 30 894 [.ref S] S [] O_base
def NamedC (w : World) : Prop := ∀ {S : Addr}, BX w 30 901 [.ref S] S [] O_base
inductive O_left (tl : Led) : Value → Prop
  | mk {D n b v due} : (D, pair (.ref b) v n) ∈ tl → LeftIn tl b due → DueIn tl v due → O_left tl (.ref D)
def LeftC (w : World) : Prop := ∀ {S : Addr}, BX w 40 908 [.ref S] S [] O_left
theorem OperC.use {w : World} (C : OperC w) {S : Addr} : BX w 30 894 [.ref S] S [] O_base := C
theorem NamedC.use {w : World} (C : NamedC w) {S : Addr} : BX w 30 901 [.ref S] S [] O_base := C
theorem Ca.oper {G : Gx} {ρ : Rho} {led : Led} {w : World} {S f : Addr} {R : Value → Led → Prop} (C : BX w 30 f [.ref S] S [] O_base) (hw : G.w = w) (hn : 30 ≤ G.k) (hS : G.src = some S) (h : ∀ tl D n b v due, (D, pair (.ref b) v n) ∈ tl → BaseIn tl b due → DueIn tl v due → R (.ref D) (tl ++ led)) : Ca G (.ref f) [.ref S] ρ led R :=
  .bx hw hn hS C (fun _ h => (nomatch h)) fun v tl o => by cases o with | mk a b c => exact h _ _ _ _ _ _ a b c
end
section
open PySem PySem.W PyProof.Rows PySem.Calls PySem.Spec
section
variable {prog : Program} {w : World} {A : Around} {E : Value → Shared → Prop} {s : Shared} {env : Env} {h₀ : Heap} {x : Str} {body : List Stmt} {Q : Flow → Shared → Prop}
end
section
open LCg
variable {prog : Program} {w : World} {A : Around} {s : Shared} {h₀ : Heap} {L : Addr} {m : Str → Option Value} {env : Env} {elt : Expr} {x : Str} {scope : Scope} {cl : List (Str × Addr)} {S : Led → Prop} {P : Nat → Value → Prop} {Fin : List Value → Led → Prop}
end
inductive PInAll (led : Led) : List Value → List PE → Prop
  | nil : PInAll led [] []
  | cons {b p vs ps} : PIn led b p → PInAll led vs ps → PInAll led (.ref b :: vs) (p :: ps)
inductive PatAllIn (led : Led) : List Value → List PE → Prop
  | nil : PatAllIn led [] []
  | cons {b p vs ps} : PatIn led b p → PatAllIn led vs ps → PatAllIn led (.ref b :: vs) (p :: ps)
theorem PatAllIn.mono {led led' : Led} {vs ps} (h : PatAllIn led vs ps) (hs : ∀ q ∈ led, q ∈ led') : PatAllIn led' vs ps := by
  induction h with
  | nil => exact .nil
  | cons a _ ih => exact .cons (a.mono hs) ih
theorem PatAllIn.snoc {led : Led} {vs ps b p} (h : PatAllIn led vs ps) (k : PatIn led b p) : PatAllIn led (vs ++ [.ref b]) (ps ++ [p]) := by
  induction h with
  | nil => exact .cons k .nil
  | cons a _ ih => exact .cons a ih
theorem PatAllIn.len {led : Led} {vs ps} (h : PatAllIn led vs ps) : vs.length = ps.length := by
  induction h with
  | nil => rfl
  | cons _ _ ih => simp [ih]
theorem datAll_snoc {led : Led} {v : Value} {d : Dat} (k : DatIn led v d) : ∀ {vs : List Value} {ds : List Dat}, DatAll led vs ds → DatAll led (vs ++ [v]) (ds ++ [d])
  | [], _, .nil => .cons k .nil
  | _ :: _, _, .cons a r => .cons a (datAll_snoc k r)
theorem take_snoc {α : Type} {l : List α} {i : Nat} {p : α} (h : l[i]? = some p) : l.take i ++ [p] = l.take (i + 1) := by
  rw [List.take_add_one, h]; rfl
/-- the left of a function: what stands at the chain's head, its arguments in their order -/
inductive SpineIn (led : Led) : Addr → Addr → List Value → Prop
  | s0 {a D d od} : (a, instObj D d) ∈ led → (d, od) ∈ led → nodeDs.contains D = true → (D == 333) = false → SpineIn led a a []
  | s1 {a f b D d od} : AppAt led a f b → (f, instObj D d) ∈ led → (d, od) ∈ led → nodeDs.contains D = true → (D == 333) = false → SpineIn led a f [.ref b]
  | s2 {a f b f2 b2 D d od} : AppAt led a f b → AppAt led f f2 b2 → (f2, instObj D d) ∈ led → (d, od) ∈ led → nodeDs.contains D = true → (D == 333) = false → SpineIn led a f2 [.ref b2, .ref b]
  | s3 {a f b f2 b2 f3 b3 D d od} : AppAt led a f b → AppAt led f f2 b2 → AppAt led f2 f3 b3 → (f3, instObj D d) ∈ led → (d, od) ∈ led → nodeDs.contains D = true → (D == 333) = false → SpineIn led a f3 [.ref b3, .ref b2, .ref b]
inductive O_spine (h : Addr) (vs : List Value) (led : Led) : Value → Prop
  | mk {D n l k} : (D, pair (.ref h) (.ref l) n) ∈ led → (l, listOf vs.toArray k) ∈ led → O_spine h vs led (.ref D)
def SpineC (w : World) : Prop := ∀ {led : Led} {a h : Addr} {vs : List Value}, SpineIn led a h vs → RD w 4 819 [.ref a] led (O_spine h vs)
theorem SpineC.use {w : World} (C : SpineC w) {led : Led} {a h : Addr} {vs : List Value} (R : SpineIn led a h vs) : RD w 4 819 [.ref a] led (O_spine h vs) := C R
/-- names that may be bound, and the others -/
def goodNames : List Str := ["f", "g'", "+++", "div", "-"]
def badNames : List Str := ["M.f", "M.+"]
inductive O_str (x : Str) : Led → Value → Prop
  | mk {t} {led} : O_str x led (.str x t)
def OwnC (w : World) : Prop := ∀ {x : Str} {t : Tok} {pl : Value}, x ∈ goodNames → RD w 6 812 [.str x t, pl] [] (O_str x)
def OwnE (w : World) : Prop := ∀ {x : Str} {t : Tok} {pl : Value}, x ∈ badNames → RE w 8 812 [.str x t, pl] []
theorem OwnC.use {w : World} (C : OwnC w) {x : Str} {t : Tok} {pl : Value} (h : x ∈ goodNames) : RD w 6 812 [.str x t, pl] [] (O_str x) := C h
theorem OwnE.use {w : World} (C : OwnE w) {x : Str} {t : Tok} {pl : Value} (h : x ∈ badNames) : RE w 8 812 [.str x t, pl] [] := C h
/-- an item of an operator's row -/
inductive KK where
  | oth
  | con
  | var
inductive KindIn (led : Led) : Addr → KK → Prop
  | oth {a D d od} : (a, instObj D d) ∈ led → (d, od) ∈ led → nodeDs.contains D = true → (D == 360) = false → KindIn led a .oth
  | con {a x} : OpAt led a x true → KindIn led a .con
  | var {a x} : OpAt led a x false → KindIn led a .var
inductive KindAll (led : Led) : List Value → List KK → Prop
  | nil : KindAll led [] []
  | cons {a k vs ks} : KindIn led a k → KindAll led vs ks → KindAll led (.ref a :: vs) (k :: ks)
theorem KindAll.at {led : Led} {vs ks} (h : KindAll led vs ks) : ∀ {i : Nat}, i < vs.length → ∃ a k, vs[i]? = some (.ref a) ∧ ks[i]? = some k ∧ KindIn led a k := by
  induction h with
  | nil => intro i h; simp at h
  | cons a _ ih =>
    intro i h
    cases i with
    | zero => exact ⟨_, _, rfl, rfl, a⟩
    | succ i => obtain ⟨b, p, e1, e2, e3⟩ := ih (by simpa using h); exact ⟨b, p, by simpa using e1, by simpa using e2, e3⟩
theorem KindAll.mono {led led' : Led} {vs ks} (h : KindAll led vs ks) (hs : ∀ q ∈ led, q ∈ led') : KindAll led' vs ks := by
  induction h with
  | nil => exact .nil
  | cons a _ ih =>
    refine .cons ?_ ih
    cases a with
    | oth a b c d => exact .oth (hs _ a) (hs _ b) c d
    | con a => exact .con (a.mono hs)
    | var a => exact .var (a.mono hs)
theorem KindAll.len {led : Led} {vs ks} (h : KindAll led vs ks) : vs.length = ks.length := by
  induction h with
  | nil => rfl
  | cons _ _ ih => simp [ih]
theorem KindAll.app {led : Led} {vs ks us js} (h : KindAll led vs ks) (k : KindAll led us js) : KindAll led (vs ++ us) (ks ++ js) := by
  induction h with
  | nil => exact k
  | cons a _ ih => exact .cons a ih
theorem PIn.kind {led : Led} {b p} (h : PIn led b p) : KindIn led b .oth := by
  obtain ⟨D, d, od, m1, m2, hD, hb⟩ := h.node
  exact .oth m1 m2 hD hb
def stepK (st : List Int × Bool) (i : Nat) : KK → List Int × Bool
  | .oth => (st.1, false)
  | .con => (st.1, true)
  | .var => if st.2 then st else (st.1 ++ [(i : Int)], true)
noncomputable def scanK : List KK → Nat → List Int × Bool → List Int × Bool
  | [], _, st => st
  | k :: ks, i, st => scanK ks (i + 1) (stepK st i k)
theorem scanK_app : ∀ (ks js : List KK) (i : Nat) (st : List Int × Bool), scanK (ks ++ js) i st = scanK js (i + ks.length) (scanK ks i st)
  | [], _, _, _ => rfl
  | k :: ks, js, i, st => by
    show scanK (ks ++ js) (i + 1) _ = scanK js (i + (ks.length + 1)) _
    rw [scanK_app ks js (i + 1)]
    congr 1
    omega
theorem scanK_snoc {ks : List KK} {i : Nat} {k : KK} {st : List Int × Bool} (h : ks[i]? = some k) : scanK (ks.take (i + 1)) 0 st = stepK (scanK (ks.take i) 0 st) i k := by
  have hi : i < ks.length := (List.getElem?_eq_some_iff.mp h).1
  rw [← take_snoc h, scanK_app, List.length_take, Nat.min_eq_left (Nat.le_of_lt hi), Nat.zero_add]
  rfl
def SideIn.kinds : PE → List KK
  | .neg => [.var, .oth]
  | .two .. => [.oth, .con, .oth]
  | _ => [.oth]
theorem NamedIn.snoc {led : Led} {a e b : Addr} {x : Str} {ps : List PE} {p : PE} (h : NamedIn led a x ps) (ha : AppAt led e a b) (hp : PIn led b p) (hl : ps.length < 3) : NamedIn led e x (ps ++ [p]) := by
  cases h with
  | n0 v => exact .n1 ha v hp
  | n1 a1 v p1 => exact .n2 ha a1 v hp p1
  | n2 a1 a2 v p1 p2 => exact .n3 ha a1 a2 v hp p1 p2
  | n3 => simp at hl
section
variable {prog : Program} {w : World} {A : Around} {E : Value → Shared → Prop} {s : Shared} {h₀ : Heap} {L a b l : Addr} {m : Str → Option Value} {led : Led} {vs ws zs : List Value} {n k : Nat}
theorem eqL_N {Q : Value → Shared → Prop} (N : News h₀ L s.heap led) (ma : (a, listOf vs.toArray n) ∈ led) (mb : (b, listOf ws.toArray k) ∈ led) (hne : Nat.beq vs.length ws.length = false) (hu : A.units < cLine) (h : Q (.bool false) s) :
    wpAny (model prog w) A (compareOp .Eq (.ref a) (.ref b)) Q E s :=
  SeqAt.eq_list_lengthsAt (N.isList ma) (N.isList mb) (by simpa using Nat.ne_of_beq_eq_false hne) hu h
theorem neL_N {Q : Value → Shared → Prop} (N : News h₀ L s.heap led) (ma : (a, listOf vs.toArray n) ∈ led) (mb : (b, listOf ws.toArray k) ∈ led) (hne : Nat.beq vs.length ws.length = false) (hu : A.units < cLine) (h : Q (.bool true) s) :
    wpAny (model prog w) A (compareOp .NotEq (.ref a) (.ref b)) Q E s :=
  SeqAt.RcNeAt.lists_lengths (N.isList ma) (N.isList mb) (by simpa using Nat.ne_of_beq_eq_false hne) hu prog w E Q h
theorem eq0_N {Q : Value → Shared → Prop} (N : News h₀ L s.heap led) (ma : (a, listOf vs.toArray n) ∈ led) (mb : (b, listOf ws.toArray k) ∈ led) (ha : vs = []) (hb : ws = []) (hu : A.units < cLine) (h : Q (.bool true) s) :
    wpAny (model prog w) A (compareOp .Eq (.ref a) (.ref b)) Q E s := by
  subst ha hb
  exact SeqAt.eq_listAt (e := fun _ => true) (N.isList ma) (N.isList mb) rfl hu (fun j h1 _ => absurd h1 (Nat.not_lt_zero j)) h
end
theorem pick_lo {as bs : List Value} {o : Value} : kms_pick (as ++ [o] ++ bs) none (some (as.length : Int)) = as := by
  unfold kms_pick kms_lo kms_hi
  have h : ¬ ((as.length : Int) < 0) := by omega
  simp only [if_neg h, List.drop_zero, Nat.sub_zero, Int.toNat_natCast]
  rw [Nat.min_eq_left (by simp), List.append_assoc, List.take_left]
theorem pick_hi {as bs : List Value} {o : Value} : kms_pick (as ++ [o] ++ bs) (some ((as.length : Int) + 1)) none = bs := by
  unfold kms_pick kms_lo kms_hi
  have h : ¬ ((as.length : Int) + 1 < 0) := by omega
  have e : ((as.length : Int) + 1).toNat = (as ++ [o]).length := by simp
  simp only [if_neg h, e]
  rw [Nat.min_eq_left (by simp), List.drop_left' rfl, List.take_of_length_le (by simp; omega)]
theorem at_mid {as bs : List Value} {o : Value} : (as ++ [o] ++ bs)[((as.length : Int)).toNat]? = some o := by
  rw [Int.toNat_natCast, List.append_assoc]; simp
/-- a part of an operator's row -/
inductive O_part (p : PE) (led : Led) : Value → Prop
  | mk {b} : PIn led b p → O_part p led (.ref b)
def PartC (w : World) : Prop := ∀ {led : Led} {l : Addr} {vs : List Value} {p : PE} {n : Nat}, (l, listOf vs.toArray n) ∈ led → SideIn led vs p → RD w 5 833 [.ref l, .none] led (O_part p)
theorem PartC.use {w : World} (C : PartC w) {led' : Led} {l : Addr} {vs : List Value} {p : PE} {n : Nat} (R : SideIn led' vs p) : RD w 5 833 [.ref l, .none] ((l, listOf vs.toArray n) :: led') (O_part p) := C (.head _) (R.mono fun _ h => .tail _ h)
/-- the places of an operator's row -/
inductive Ints : List Value → List Int → Prop
  | nil : Ints [] []
  | cons {i t vs is} : Ints vs is → Ints (.int i t :: vs) (i :: is)
theorem Ints.snoc {vs : List Value} {is : List Int} {i : Int} {t : Tok} (h : Ints vs is) : Ints (vs ++ [.int i t]) (is ++ [i]) := by
  induction h with
  | nil => exact .cons .nil
  | cons _ ih => exact .cons ih
theorem Ints.len {vs : List Value} {is : List Int} (h : Ints vs is) : vs.length = is.length := by
  induction h with
  | nil => rfl
  | cons _ ih => simp [ih]
inductive O_ints (is : List Int) (led : Led) : Value → Prop
  | mk {D n vs} : (D, listOf vs.toArray n) ∈ led → Ints vs is → O_ints is led (.ref D)
def VarsC (w : World) : Prop := ∀ {led : Led} {l : Addr} {vs : List Value} {ks : List KK} {n : Nat}, (l, listOf vs.toArray n) ∈ led → KindAll led vs ks → vs.length ≤ 9 → RD w 6 826 [.ref l] led (O_ints (scanK ks 0 ([], true)).1)
theorem oper_scan {led : Led} {as bs zs : List Value} {o : Addr} {x : Str} {p q : PE} {z : Bool} (hp : SideIn led as p) (hq : SideIn led bs q) (ho : OpAt led o x false) (hz : ZIn led zs z) :
    ∃ ks, KindAll led (as ++ [.ref o] ++ bs ++ zs) ks ∧ (scanK ks 0 ([], true)).1 = (as.length : Int) :: (if z then [((as.length + 1 + bs.length : Nat) : Int)] else []) ∧ (as ++ [Value.ref o] ++ bs ++ zs).length ≤ 9 := by
  have side : ∀ {vs : List Value} {p : PE}, SideIn led vs p → ∃ ks, KindAll led vs ks ∧ ((vs.length = 2 ∧ ks = [.var, .oth]) ∨ (vs.length = 1 ∧ ks = [.oth]) ∨ (vs.length = 3 ∧ ks = [.oth, .con, .oth])) := by
    intro vs p h
    cases h with
    | neg a b c d => exact ⟨_, .cons (.var (.mk a b)) (.cons (.oth c d rfl rfl) .nil), .inl ⟨rfl, rfl⟩⟩
    | one a _ => exact ⟨_, .cons a.kind .nil, .inr (.inl ⟨rfl, rfl⟩)⟩
    | two a b c d => exact ⟨_, .cons c.kind (.cons (.con (.mk a b)) (.cons d.kind .nil)), .inr (.inr ⟨rfl, rfl⟩)⟩
  obtain ⟨k1, a1, b1⟩ := side hp
  obtain ⟨k2, a2, b2⟩ := side hq
  cases hz with
  | no =>
    refine ⟨k1 ++ [.var] ++ k2 ++ [], ((a1.app (.cons (.var ho) .nil)).app a2).app .nil, ?_, ?_⟩
    · rcases b1 with ⟨e1, rfl⟩ | ⟨e1, rfl⟩ | ⟨e1, rfl⟩ <;> rcases b2 with ⟨e2, rfl⟩ | ⟨e2, rfl⟩ | ⟨e2, rfl⟩ <;> rw [e1] <;> rfl
    · simp only [List.length_append, List.length_cons, List.length_nil]; omega
  | yes c d =>
    have hd : KindIn led _ .oth := match d with | .mk u v => .oth u v rfl rfl
    refine ⟨k1 ++ [.var] ++ k2 ++ [.var, .oth], ((a1.app (.cons (.var ho) .nil)).app a2).app (.cons (.var c) (.cons hd .nil)), ?_, ?_⟩
    · rcases b1 with ⟨e1, rfl⟩ | ⟨e1, rfl⟩ | ⟨e1, rfl⟩ <;> rcases b2 with ⟨e2, rfl⟩ | ⟨e2, rfl⟩ | ⟨e2, rfl⟩ <;> rw [e1, e2] <;> rfl
    · simp only [List.length_append, List.length_cons, List.length_nil]; omega
theorem VarsC.use {w : World} (C : VarsC w) {led led' : Led} {l o : Addr} {as bs zs : List Value} {x : Str} {p q : PE} {z : Bool} {n : Nat} (hp : SideIn led' as p) (hq : SideIn led' bs q) (ho : OpAt led' o x false) (hz : ZIn led' zs z) (ml : (l, listOf (as ++ [Value.ref o] ++ bs ++ zs).toArray n) ∈ led) (sub : ∀ q ∈ led', q ∈ led) :
    RD w 6 826 [.ref l] led (O_ints ((as.length : Int) :: (if z then [((as.length + 1 + bs.length : Nat) : Int)] else []))) :=
  have ⟨_, a, e, hl⟩ := oper_scan (hp.mono sub) (hq.mono sub) (ho.mono sub) (hz.mono sub)
  e ▸ C ml a hl
/-- what a function's head is -/
inductive O_fn (x : Str) (ps : List PE) (led : Led) : Value → Prop
  | mk {D n t l k vs} : (D, pair (.str x t) (.ref l) n) ∈ led → (l, listOf vs.toArray k) ∈ led → PatAllIn led vs ps → O_fn x ps led (.ref D)
inductive O_none : Led → Value → Prop
  | mk {led} : O_none led .none
def OkAll (ps : List PE) : Prop := ∀ p ∈ ps, Ok p
structure OperHC (w : World) : Prop where
  ok : ∀ {led : Led} {a : Addr} {x : Str} {p q : PE}, OperIn led a x p q false → x ∈ goodNames → RD w 64 840 [.ref a] led (O_fn x [p, q])
  two : ∀ {led : Led} {a : Addr} {x : Str} {p q : PE}, OperIn led a x p q true → RE w 64 840 [.ref a] led
  bad : ∀ {led : Led} {a : Addr} {x : Str} {p q : PE}, OperIn led a x p q false → x ∈ badNames → RE w 64 840 [.ref a] led
structure FBaseC (w : World) : Prop where
  fn : ∀ {led : Led} {a : Addr} {x : Str} {ps : List PE}, BaseIn led a (.fn x ps) → OkAll ps → RD w 70 845 [.ref a] led (O_fn x ps)
  bad : ∀ {led : Led} {a : Addr}, BaseIn led a .bad → RE w 70 845 [.ref a] led
structure FLeftC (w : World) : Prop where
  fn : ∀ {led : Led} {a : Addr} {x : Str} {ps : List PE}, LeftIn led a (.fn x ps) → OkAll ps → RD w 80 845 [.ref a] led (O_fn x ps)
  bad : ∀ {led : Led} {a : Addr}, LeftIn led a .bad → RE w 80 845 [.ref a] led
  none0 : ∀ {led : Led} {a : Addr}, LeftIn led a .none0 → RD w 80 845 [.ref a] led O_none
  pat : ∀ {led : Led} {a : Addr} {p : PE}, LeftIn led a (.pat p) → RD w 80 845 [.ref a] led O_none
theorem good_of_name {x : Str} (h : x ∈ (["f", "g'", "f", "M.f"] : List Str)) (e : (x == "M.f") = false) : x ∈ goodNames := by
  simp only [List.mem_cons, List.not_mem_nil, or_false] at h
  rcases h with rfl | rfl | rfl | rfl
  · decide
  · decide
  · decide
  · exact absurd e (by decide)
theorem good_of_oper {x : Str} (h : x ∈ (["+++", "div", "M.+", "-"] : List Str)) (e : (x == "M.+") = false) : x ∈ goodNames := by
  simp only [List.mem_cons, List.not_mem_nil, or_false] at h
  rcases h with rfl | rfl | rfl | rfl
  · decide
  · decide
  · exact absurd e (by decide)
  · decide
theorem bad_of_name {x : Str} (e : (x == "M.f") = true) : x ∈ badNames := by
  have : x = "M.f" := beq_iff_eq.mp e
  subst this; decide
theorem bad_of_oper {x : Str} (e : (x == "M.+") = true) : x ∈ badNames := by
  have : x = "M.+" := beq_iff_eq.mp e
  subst this; decide
theorem BaseIn.cases {led : Led} {a : Addr} {x : Str} {ps : List PE} (h : BaseIn led a (.fn x ps)) : x ∈ goodNames ∧ (NamedIn led a x ps ∨ ∃ p q, ps = [p, q] ∧ OperIn led a x p q false) := by
  cases h with
  | named a b c => exact ⟨good_of_name b c, .inl a⟩
  | oper a b c => exact ⟨good_of_oper b c, .inr ⟨_, _, rfl, a⟩⟩
theorem BaseIn.casesBad {led : Led} {a : Addr} (h : BaseIn led a .bad) : (∃ x ps, NamedIn led a x ps ∧ x ∈ badNames) ∨ (∃ x p q, OperIn led a x p q true) ∨ (∃ x p q, OperIn led a x p q false ∧ x ∈ badNames) := by
  cases h with
  | namedBad a b => exact .inl ⟨_, _, a, bad_of_name b⟩
  | operBad a b =>
    rename_i x p q z
    cases z with
    | true => exact .inr (.inl ⟨_, _, _, a⟩)
    | false => exact .inr (.inr ⟨_, _, _, a, bad_of_oper b⟩)
  | operTwo a => exact .inr (.inl ⟨_, _, _, a⟩)
theorem NamedIn.len {led : Led} {a : Addr} {x : Str} {ps : List PE} (h : NamedIn led a x ps) : ps.length ≤ 3 := by
  cases h <;> simp
theorem VarsC.use0 {w : World} (C : VarsC w) {led led' : Led} {l o : Addr} {as bs : List Value} {x : Str} {p q : PE} {n : Nat} (hp : SideIn led' as p) (hq : SideIn led' bs q) (ho : OpAt led' o x false) (ml : (l, listOf (as ++ [Value.ref o] ++ bs).toArray n) ∈ led) (sub : ∀ q ∈ led', q ∈ led) :
    RD w 6 826 [.ref l] led (O_ints [(as.length : Int)]) := VarsC.use (zs := []) (z := false) C hp hq ho .no (by rw [List.append_nil]; exact ml) sub
theorem VarsC.use2 {w : World} (C : VarsC w) {led led' : Led} {l o : Addr} {as bs zs : List Value} {x : Str} {p q : PE} {n : Nat} (hp : SideIn led' as p) (hq : SideIn led' bs q) (ho : OpAt led' o x false) (hz : ZIn led' zs true) (ml : (l, listOf (as ++ [Value.ref o] ++ bs ++ zs).toArray n) ∈ led) (sub : ∀ q ∈ led', q ∈ led) :
    RD w 6 826 [.ref l] led (O_ints [(as.length : Int), ((as.length + 1 + bs.length : Nat) : Int)]) := VarsC.use (z := true) C hp hq ho hz ml sub
theorem ints1 {vs : List Value} {i : Int} (h : Ints vs [i]) : ∃ t, vs = [.int i t] := by
  cases h with | cons h => cases h with | nil => exact ⟨_, rfl⟩
theorem ints2 {vs : List Value} {i j : Int} (h : Ints vs [i, j]) : ∃ t u, vs = [.int i t, .int j u] := by
  cases h with | cons h => cases h with | cons h => cases h with | nil => exact ⟨_, _, rfl⟩
theorem BaseIn.len {led : Led} {a : Addr} {x : Str} {ps : List PE} (h : BaseIn led a (.fn x ps)) : ps.length ≤ 3 := by
  rcases h.cases.2 with h | ⟨p, q, e, _⟩
  · exact h.len
  · rw [e]; exact Nat.le_of_ble_eq_true rfl
theorem datAll_len {led : Led} : ∀ {vs : List Value} {ds : List Dat}, DatAll led vs ds → vs.length = ds.length
  | [], _, .nil => rfl
  | _ :: _, _, .cons _ r => by simp [datAll_len r]
theorem base_split {tl : Led} {b : Addr} {v : Value} {due : Due} (B : BaseIn tl b due) (D : DueIn tl v due) : (∃ t, v = .str "wrong" t ∧ due = .bad) ∨ (∃ D n x t l k, v = .ref D ∧ due = .fn x [] ∧ (D, pair (.str x t) (.ref l) n) ∈ tl ∧ (l, listOf #[] k) ∈ tl ∧ PyData.strOk x = true) ∨
    (∃ D n x t l k r rs p ps, v = .ref D ∧ due = .fn x (p :: ps) ∧ (D, pair (.str x t) (.ref l) n) ∈ tl ∧ (l, listOf (r :: rs).toArray k) ∈ tl ∧ DatIn tl r p.row ∧ DatAll tl rs (ps.map PE.row) ∧ (∀ q ∈ p :: ps, Ok q) ∧ PyData.strOk x = true ∧ rs.length ≤ 3) := by
  cases D with
  | bad => exact .inl ⟨_, rfl, rfl⟩
  | none0 => cases B
  | pat => cases B
  | fn m1 m2 da ok so =>
    rename_i x t l k rs ps
    cases ps with
    | nil => cases da with | nil => exact .inr (.inl ⟨_, _, _, _, _, _, rfl, rfl, m1, m2, so⟩)
    | cons p ps =>
      cases da with
      | cons d1 d2 =>
        have h1 := B.len
        have h2 := datAll_len d2
        refine .inr (.inr ⟨_, _, _, _, _, _, _, _, _, _, rfl, rfl, m1, m2, d1, d2, ok, so, ?_⟩)
        rw [h2, List.length_map]
        simp only [List.length_cons] at h1
        omega
theorem ok_just {p : PE} (h : p ∈ PE.atoms) : Ok (.app "Just" p) := by
  have a := kOk_up 6 10 _ (by decide) (atoms_ok h)
  have e : PyData.strOk "pcon" = true := by kernel_rfl
  have f : PyData.strOk "Just" = true := by kernel_rfl
  have sa := atoms_size h
  refine ⟨?_, by simp only [PE.size]; omega⟩
  simp only [PE.row, kOk, List.all_cons, List.all_nil, Bool.and_true, Bool.and_eq_true]
  exact ⟨e, f, a⟩
theorem ok_tupb {p : PE} (h : p ∈ PE.atoms) : Ok (.tup p (.var "b")) := by
  have a := kOk_up 6 10 _ (by decide) (atoms_ok h)
  have b : kOk 10 (PE.var "b").row = true := by kernel_rfl
  have e : PyData.strOk "ptuple" = true := by kernel_rfl
  have sa := atoms_size h
  refine ⟨?_, by simp only [PE.size]; omega⟩
  simp only [PE.row, kOk, List.all_cons, List.all_nil, Bool.and_true, Bool.and_eq_true] at b ⊢
  exact ⟨e, a, b⟩
theorem due_wrap {tl : Led} {D l : Addr} {n k : Nat} {x : Str} {t : Tok} {r row : Value} {rs : List Value} {p q : PE} {ps : List PE} (m1 : (D, pair (.str x t) (.ref l) n) ∈ tl) (m2 : (l, listOf (r :: rs ++ [row]).toArray k) ∈ tl) (d1 : DatIn tl r p.row) (d2 : DatAll tl rs (ps.map PE.row)) (ok : ∀ q ∈ p :: ps, Ok q) (so : PyData.strOk x = true) (dq : DatIn tl row q.row) (okq : Ok q) :
    DueIn tl (.ref D) (Due.wrap q (.fn x (p :: ps))) := by
  refine .fn m1 m2 ?_ ?_ so
  · rw [List.map_append]
    exact datAll_snoc dq (.cons d1 d2)
  · intro q' hq
    exact (List.mem_append.mp hq).elim (ok q') fun h => (List.mem_singleton.mp h) ▸ okq

theorem eqTS_N {prog : Program} {w : World} {A : Around} {E : Value → Shared → Prop} {s : Shared} {h₀ : Heap} {L D : Addr} {led : Led} {x y : Value} {n : Nat} {b : Str} {u : Tok} {Q : Value → Shared → Prop} (N : News h₀ L s.heap led) (mD : (D, pair x y n) ∈ led) (hu : A.units < cLine) (h : Q (.bool false) s) :
    wpAny (model prog w) A (compareOp .Eq (.ref D) (.str b u)) Q E s := SeqAt.RcAt.tuple_str (items := #[x, y]) b u ⟨_, (N _ mD).1, rfl, _, rfl⟩ hu prog w E Q h
theorem pat_split {led : Led} {vs : List Value} {p : PE} {ps : List PE} (h : PatAllIn led vs (p :: ps)) : ∃ b us, vs = .ref b :: us ∧ PatIn led b p ∧ PatAllIn led us ps ∧ us.length = ps.length := by
  cases h with | cons a r => exact ⟨_, _, rfl, a, r, r.len⟩
theorem pat_nil {led : Led} {vs : List Value} (h : PatAllIn led vs []) : vs = [] := by cases h; rfl
/-- what a left side is, seen from without -/
inductive HeadAt (led : Led) : Addr → Prop
  | var {a x} : VarAt led a x → HeadAt led a
  | app {a f b} : AppAt led a f b → HeadAt led a
theorem NamedIn.head {led : Led} {a : Addr} {x : Str} {ps : List PE} (h : NamedIn led a x ps) : ∃ f vs, SpineIn led a f vs ∧ VarAt led f x ∧ HeadAt led a := by
  cases h with
  | n0 v => cases v with | mk m1 m2 => exact ⟨_, _, .s0 m1 m2 rfl rfl, .mk m1 m2, .var (.mk m1 m2)⟩
  | n1 a1 v _ => cases v with | mk m1 m2 => exact ⟨_, _, .s1 a1 m1 m2 rfl rfl, .mk m1 m2, .app a1⟩
  | n2 a1 a2 v _ _ => cases v with | mk m1 m2 => exact ⟨_, _, .s2 a1 a2 m1 m2 rfl rfl, .mk m1 m2, .app a1⟩
  | n3 a1 a2 a3 v _ _ _ => cases v with | mk m1 m2 => exact ⟨_, _, .s3 a1 a2 a3 m1 m2 rfl rfl, .mk m1 m2, .app a1⟩
theorem NamedIn.four {led : Led} {a : Addr} {x : Str} {ps : List PE} (h : NamedIn led a x ps) : ∃ f, VarAt led f x ∧ ((ps = [] ∧ SpineIn led a f [] ∧ VarAt led a x) ∨ (∃ p b, ps = [p] ∧ SpineIn led a f [.ref b] ∧ PIn led b p ∧ ∃ g c, AppAt led a g c) ∨
    (∃ p b p' b', ps = [p, p'] ∧ SpineIn led a f [.ref b, .ref b'] ∧ PIn led b p ∧ PIn led b' p' ∧ ∃ g c, AppAt led a g c) ∨ (∃ p b p' b' p'' b'', ps = [p, p', p''] ∧ SpineIn led a f [.ref b, .ref b', .ref b''] ∧ PIn led b p ∧ PIn led b' p' ∧ PIn led b'' p'' ∧ ∃ g c, AppAt led a g c)) := by
  cases h with
  | n0 v => cases v with | mk m1 m2 => exact ⟨_, .mk m1 m2, .inl ⟨rfl, .s0 m1 m2 rfl rfl, .mk m1 m2⟩⟩
  | n1 a1 v r1 => cases v with | mk m1 m2 => exact ⟨_, .mk m1 m2, .inr (.inl ⟨_, _, rfl, .s1 a1 m1 m2 rfl rfl, r1, _, _, a1⟩)⟩
  | n2 a1 a2 v r1 r2 => cases v with | mk m1 m2 => exact ⟨_, .mk m1 m2, .inr (.inr (.inl ⟨_, _, _, _, rfl, .s2 a1 a2 m1 m2 rfl rfl, r2, r1, _, _, a1⟩))⟩
  | n3 a1 a2 a3 v r1 r2 r3 => cases v with | mk m1 m2 => exact ⟨_, .mk m1 m2, .inr (.inr (.inr ⟨_, _, _, _, _, _, rfl, .s3 a1 a2 a3 m1 m2 rfl rfl, r3, r2, r1, _, _, a1⟩))⟩
theorem BaseIn.notOther {led : Led} {a : Addr} : (BaseIn led a .none0 → False) ∧ ∀ p, BaseIn led a (.pat p) → False := ⟨(fun h => nomatch h), (fun _ h => nomatch h)⟩
theorem wrap_fn {due : Due} {q : PE} {x : Str} {ps : List PE} (h : due.wrap q = .fn x ps) : ∃ p qs, due = .fn x (p :: qs) ∧ ps = p :: qs ++ [q] := by
  cases due with
  | fn y qs =>
    cases qs with
    | nil => cases h
    | cons p qs => cases h; exact ⟨_, _, rfl, rfl⟩
  | _ => cases h
theorem wrap_bad {due : Due} {q : PE} (h : due.wrap q = .bad) : due = .bad := by
  cases due with
  | fn y qs => cases qs <;> cases h
  | bad => rfl
  | _ => cases h
theorem LeftIn.fnCs {led : Led} {a : Addr} {x : Str} {ps : List PE} (h : LeftIn led a (.fn x ps)) : BaseIn led a (.fn x ps) ∨ ∃ c b i p qs q, AppAt led a c b ∧ ParenAt led c i ∧ BaseIn led i (.fn x (p :: qs)) ∧ PIn led b q ∧ ps = p :: qs ++ [q] := by
  generalize e : Due.fn x ps = d at h
  cases h with
  | base b => subst e; exact .inl b
  | just => cases e
  | tupb => cases e
  | wrap a1 a2 b r =>
    obtain ⟨p, qs, rfl, e2⟩ := wrap_fn e.symm
    exact .inr ⟨_, _, _, _, _, _, a1, a2, b, r, e2⟩
theorem LeftIn.badCs {led : Led} {a : Addr} (h : LeftIn led a .bad) : BaseIn led a .bad ∨ ∃ c b i, AppAt led a c b ∧ ParenAt led c i ∧ BaseIn led i .bad := by
  generalize e : Due.bad = d at h
  cases h with
  | base b => subst e; exact .inl b
  | just => cases e
  | tupb => cases e
  | wrap a1 a2 b r =>
    obtain rfl := wrap_bad e.symm
    exact .inr ⟨_, _, _, a1, a2, b⟩
theorem LeftIn.none0Cs {led : Led} {a : Addr} (h : LeftIn led a .none0) : ∃ c b i x, AppAt led a c b ∧ ParenAt led c i ∧ BaseIn led i (.fn x []) := by
  generalize e : Due.none0 = d at h
  cases h with
  | base b => subst e; exact (BaseIn.notOther.1 b).elim
  | just => cases e
  | tupb => cases e
  | @wrap _ _ _ due _ a1 a2 b r =>
    cases due with
    | bad => cases e
    | none0 => exact (BaseIn.notOther.1 b).elim
    | pat p => exact (BaseIn.notOther.2 p b).elim
    | fn x qs =>
      cases qs with
      | nil => exact ⟨_, _, _, _, a1, a2, b⟩
      | cons => cases e
theorem LeftIn.patCs {led : Led} {a : Addr} {p : PE} (h : LeftIn led a (.pat p)) : PIn led a p ∧ ((∃ q, p = .app "Just" q) ∨ ∃ q, p = .tup q (.var "b")) := by
  generalize e : Due.pat p = d at h
  cases h with
  | base b => subst e; exact (BaseIn.notOther.2 p b).elim
  | just r => cases e; exact ⟨r, .inl ⟨_, rfl⟩⟩
  | tupb r => cases e; exact ⟨r, .inr ⟨_, rfl⟩⟩
  | @wrap _ _ _ due _ a1 a2 b r =>
    cases due with
    | fn x qs => cases qs <;> cases e
    | _ => cases e
/-- what bound makes -/
inductive O_bfn (x : Str) (ps : List PE) (sd pl : Value) (led : Led) : Value → Prop
  | mk {a d n h0 h1 h2 h3 t0 t1 t2 t3 u tx l k c cd cn g0 g1 g2 s0 s1 s2 l2 k2 vs} : (a, instObj 112 d) ∈ led → (d, dictOf [ent h0 "place" t0 pl, ent h1 "name" t1 (.str x tx), ent h2 "clauses" t2 (.ref l), ent h3 "given" t3 (.ref u)] n) ∈ led → (l, listOf #[.ref c] k) ∈ led → (c, instObj 139 cd) ∈ led → (cd, dictOf [ent g0 "place" s0 pl, ent g1 "patterns" s1 (.ref l2), ent g2 "rhs" s2 sd] cn) ∈ led → (l2, listOf vs.toArray k2) ∈ led → PatAllIn led vs ps → O_bfn x ps sd pl led (.ref a)
inductive O_bpat (p : PE) (sd pl : Value) (led : Led) : Value → Prop
  | mk {a d n h0 h1 h2 h3 t0 t1 t2 t3 u b} : (a, instObj 166 d) ∈ led → (d, dictOf [ent h0 "place" t0 pl, ent h1 "pattern" t1 (.ref b), ent h2 "rhs" t2 sd, ent h3 "given" t3 (.ref u)] n) ∈ led → PatIn led b p → O_bpat p sd pl led (.ref a)
structure BoundC (w : World) : Prop where
  fn : ∀ {led : Led} {a : Addr} {x : Str} {ps : List PE} {sd pl : Value}, LeftIn led a (.fn x ps) → OkAll ps → RD w 90 852 [.ref a, sd, pl] led (O_bfn x ps sd pl)
  pat : ∀ {led : Led} {a : Addr} {p : PE} {sd pl : Value}, LeftIn led a (.pat p) → Ok p → RD w 90 852 [.ref a, sd, pl] led (O_bpat p sd pl)
  bad : ∀ {led : Led} {a : Addr} {sd pl : Value}, LeftIn led a .bad → RE w 90 852 [.ref a, sd, pl] led
  none0 : ∀ {led : Led} {a : Addr} {sd pl : Value}, LeftIn led a .none0 → RE w 90 852 [.ref a, sd, pl] led
/-- an application's head in brackets is no pattern -/
def PatBadC (w : World) : Prop := ∀ {led : Led} {a c b i : Addr}, AppAt led a c b → ParenAt led c i → RE w 10 779 [.ref a] led
theorem PatBadC.use {w : World} (C : PatBadC w) {led : Led} {a c b i : Addr} (h : AppAt led a c b) (k : ParenAt led c i) : RE w 10 779 [.ref a] led := C h k

theorem intsAre_len {vs : List Value} {ns : List Int} (h : IntsAre vs ns) : vs.length = ns.length := by
  induction h with
  | nil => rfl
  | cons _ _ _ ih => simp [ih]
inductive O_nb (led : Led) : Value → Prop
  | mk {wh wd wn k0 k1 k2 k3 r0 r1 r2 r3 u sg sgn bi bin} : (wh, instObj 218 wd) ∈ led → (wd, dictOf [ent k0 "place" r0 .none, ent k1 "sigs" r1 (.ref sg), ent k2 "binds" r2 (.ref bi), ent k3 "groups" r3 (.ref u)] wn) ∈ led → (sg, listOf #[] sgn) ∈ led → (bi, listOf #[] bin) ∈ led → O_nb led (.ref wh)
def NoBindsC (w : World) : Prop := RD w 6 227 [] [] O_nb
theorem NoBindsC.use {w : World} (C : NoBindsC w) : RD w 6 227 [] [] O_nb := C
/-- what law puts behind the sign -/
inductive RhsIn (led : Led) : Addr → Prop
  | mk {a d n h0 h1 h2 t0 t1 t2 g gn tp tn b bd bn g0 g1 g2 s0 s1 s2 tk ti wh wd wn k0 k1 k2 k3 r0 r1 r2 r3 u sg sgn bi bin} : (a, instObj 191 d) ∈ led → (d, dictOf [ent h0 "place" t0 .none, ent h1 "guarded" t1 (.ref g), ent h2 "where" t2 (.ref wh)] n) ∈ led → (g, listOf #[.ref tp] gn) ∈ led →
      (tp, pair .none (.ref b) tn) ∈ led → (b, instObj 306 bd) ∈ led → (bd, dictOf [ent g0 "place" s0 .none, ent g1 "kind" s1 (.str "int" tk), ent g2 "value" s2 (.int 1 ti)] bn) ∈ led →
      (wh, instObj 218 wd) ∈ led → (wd, dictOf [ent k0 "place" r0 .none, ent k1 "sigs" r1 (.ref sg), ent k2 "binds" r2 (.ref bi), ent k3 "groups" r3 u] wn) ∈ led → (sg, listOf #[] sgn) ∈ led → (bi, listOf #[] bin) ∈ led → RhsIn led a
def rhsDat : Dat := .tuple [.str "rhs", .tuple [.tuple [.none, .tuple [.str "lit", .str "int", .int 1]]], .tuple [.str "binds", .tuple [], .tuple []]]
def RhsRowC (w : World) : Prop := ∀ {led : Led} {a : Addr}, RhsIn led a → RD w 12 188 [.ref a] led (O_row rhsDat)
theorem RhsRowC.use {w : World} (C : RhsRowC w) {led : Led} {a : Addr} (R : RhsIn led a) : RD w 12 188 [.ref a] led (O_row rhsDat) := C R
section
open LCg
variable {prog : Program} {w : World} {A : Around} {h₀ : Heap} {L : Addr} {m : Str → Option Value} {env : Env} {elt : PySem.Expr} {x : Str} {scope : Scope} {cl : List (Str × Addr)}
end
/-- the comparisons of law -/
theorem ok_fn {x : Str} {ps : List PE} (so : PyData.strOk x = true) (ok : OkAll ps) : kOk 14 (.tuple [.str x, .list (ps.map PE.row)]) = true := by
  simp only [kOk, List.all_cons, List.all_nil, Bool.and_true, Bool.and_eq_true, List.all_eq_true, List.mem_map]
  exact ⟨so, fun d ⟨p, hp, e⟩ => e ▸ (ok p hp).1⟩
theorem ok_rows {ps : List PE} (ok : OkAll ps) : kOk 13 (.list (ps.map PE.row)) = true := by
  simp only [kOk, List.all_eq_true, List.mem_map]
  exact fun d ⟨p, hp, e⟩ => e ▸ (ok p hp).1
section
variable {prog : Program} {w : World} {A : Around} {E : Value → Shared → Prop} {s : Shared} {h₀ : Heap} {L D D' l l' P P' : Addr} {n₁ n₂ led : Led} {x : Str} {t t' : Tok} {n n' k k' : Nat} {ys rs : List Value} {ps : List PE} {Q : Value → Shared → Prop}
theorem fn_ne (N : News h₀ L s.heap led) (m1 : (D, pair (.str x t) (.ref l) n) ∈ led) (m2 : (l, listOf ys.toArray k) ∈ led) (m3 : (D', pair (.str x t') (.ref l') n') ∈ led) (m4 : (l', listOf rs.toArray k') ∈ led) (dA : DatAll n₁ ys (ps.map PE.row)) (dB : DatAll n₂ rs (ps.map PE.row)) (sa : ∀ q ∈ n₁, q ∈ led) (sb : ∀ q ∈ n₂, q ∈ led)
    (so : PyData.strOk x = true) (ok : OkAll ps) (hu : A.units + 64 < cLine) (h : Q (.bool false) s) : wpAny (model prog w) A (compareOp .NotEq (.ref D) (.ref D')) Q E s :=
  dat_ne (d := .tuple [.str x, .list (ps.map PE.row)]) N (.tuple (vs := [_, _]) m1 (.cons (.str _ _) (.cons (.list m2 (DatAll.mono sa dA)) .nil))) (fun _ h => h) (.tuple (vs := [_, _]) m3 (.cons (.str _ _) (.cons (.list m4 (DatAll.mono sb dB)) .nil))) (fun _ h => h) (ok_fn so ok) (by decide) hu h
theorem rows_eq (N : News h₀ L s.heap led) (m2 : (l, listOf ys.toArray k) ∈ led) (m4 : (l', listOf rs.toArray k') ∈ led) (dA : DatAll n₁ ys (ps.map PE.row)) (dB : DatAll n₂ rs (ps.map PE.row)) (sa : ∀ q ∈ n₁, q ∈ led) (sb : ∀ q ∈ n₂, q ∈ led)
    (ok : OkAll ps) (hu : A.units + 64 < cLine) (h : Q (.bool true) s) : wpAny (model prog w) A (compareOp .Eq (.ref l) (.ref l')) Q E s :=
  dat_eq (d := .list (ps.map PE.row)) N (.list m2 (DatAll.mono sa dA)) (fun _ h => h) (.list m4 (DatAll.mono sb dB)) (fun _ h => h) (ok_rows ok) (by decide) hu h
theorem three_ne {t1 t2 t3 u1 u2 u3 : Tok} {pn pn' : Nat} (N : News h₀ L s.heap led) (m1 : (D, (⟨.type "tuple", none, .seq #[.str x t, .ref P, .int 1 t3] n, #[]⟩ : Obj)) ∈ led) (m2 : (D', (⟨.type "tuple", none, .seq #[.str x t', .ref P', .int 1 u3] n', #[]⟩ : Obj)) ∈ led) (m3 : (P, pair (.int 2 t1) (.int 3 t2) pn) ∈ led) (m4 : (P', pair (.int 2 u1) (.int 3 u2) pn') ∈ led)
    (so : PyData.strOk x = true) (hu : A.units + 64 < cLine) (h : Q (.bool false) s) : wpAny (model prog w) A (compareOp .NotEq (.ref D) (.ref D')) Q E s :=
  dat_ne (n := 3) (d := .tuple [.str x, .tuple [.int 2, .int 3], .int 1]) N (.tuple (vs := [_, _, _]) m1 (.cons (.str _ _) (.cons (.tuple (vs := [_, _]) m3 (.cons (.int _ _) (.cons (.int _ _) .nil))) (.cons (.int _ _) .nil)))) (fun _ h => h)
    (.tuple (vs := [_, _, _]) m2 (.cons (.str _ _) (.cons (.tuple (vs := [_, _]) m4 (.cons (.int _ _) (.cons (.int _ _) .nil))) (.cons (.int _ _) .nil)))) (fun _ h => h) (by simp [kOk, so]) (by decide) hu h
theorem pat_eq {t1 t2 u1 u2 : Tok} {pn pn' : Nat} {r r' : Value} {p : PE} (N : News h₀ L s.heap led) (m1 : (D, pair r (.ref P) n) ∈ led) (m2 : (D', pair r' (.ref P') n') ∈ led) (m3 : (P, pair (.int 2 t1) (.int 3 t2) pn) ∈ led) (m4 : (P', pair (.int 2 u1) (.int 3 u2) pn') ∈ led)
    (dA : DatIn n₁ r p.row) (dB : DatIn n₂ r' p.row) (sa : ∀ q ∈ n₁, q ∈ led) (sb : ∀ q ∈ n₂, q ∈ led) (ok : Ok p) (hu : A.units + 64 < cLine) (h : Q (.bool true) s) : wpAny (model prog w) A (compareOp .Eq (.ref D) (.ref D')) Q E s :=
  dat_eq (n := 13) (d := .tuple [p.row, .tuple [.int 2, .int 3]]) N (.tuple (vs := [_, _]) m1 (.cons (DatIn.mono sa dA) (.cons (.tuple (vs := [_, _]) m3 (.cons (.int _ _) (.cons (.int _ _) .nil))) .nil))) (fun _ h => h)
    (.tuple (vs := [_, _]) m2 (.cons (DatIn.mono sb dB) (.cons (.tuple (vs := [_, _]) m4 (.cons (.int _ _) (.cons (.int _ _) .nil))) .nil))) (fun _ h => h) (by simp only [kOk, List.all_cons, List.all_nil, Bool.and_true]; exact ok.1) (by decide) hu h
theorem rhs_ne {r r' : Value} (N : News h₀ L s.heap led) (dA : DatIn n₁ r rhsDat) (dB : DatIn n₂ r' rhsDat) (sa : ∀ q ∈ n₁, q ∈ led) (sb : ∀ q ∈ n₂, q ∈ led) (hu : A.units + 64 < cLine) (h : Q (.bool false) s) : wpAny (model prog w) A (compareOp .NotEq r r') Q E s :=
  dat_ne (n := 6) N dA sa dB sb (by kernel_rfl) (by decide) hu h
end
theorem OkAll.sz {ps : List PE} {p : PE} (h : OkAll ps) (m : p ∈ ps) : p.size ≤ 8 := (h p m).2
/-- the three ends of a left side -/
def NoIn (led : Led) (a : Addr) : Prop := LeftIn led a .bad ∨ LeftIn led a .none0
theorem BoundC.no {w : World} (C : BoundC w) {led : Led} {a : Addr} {sd pl : Value} (h : NoIn led a) : RE w 90 852 [.ref a, sd, pl] led := h.elim (fun h => C.bad h) fun h => C.none0 h
theorem left_split {tl : Led} {b : Addr} {v : Value} {due : Due} (B : LeftIn tl b due) (D : DueIn tl v due) : (∃ t, v = .str "wrong" t ∧ NoIn tl b) ∨ (∃ D n t r p, v = .ref D ∧ (D, pair (.str "pattern" t) r n) ∈ tl ∧ DatIn tl r p.row ∧ Ok p ∧ p.size ≤ 8 ∧ LeftIn tl b (.pat p)) ∨
    (∃ D n x t l k rs ps, v = .ref D ∧ (D, pair (.str x t) (.ref l) n) ∈ tl ∧ (l, listOf rs.toArray k) ∈ tl ∧ DatAll tl rs (ps.map PE.row) ∧ OkAll ps ∧ PyData.strOk x = true ∧ (x == "pattern") = false ∧ ps.length ≤ 9 ∧ LeftIn tl b (.fn x ps)) := by
  cases D with
  | bad => exact .inl ⟨_, rfl, .inl B⟩
  | none0 => exact .inl ⟨_, rfl, .inr B⟩
  | pat m d ok => exact .inr (.inl ⟨_, _, _, _, _, rfl, m, d, ok, ok.2, B⟩)
  | fn m1 m2 da ok so =>
    rename_i D n x t l k rs ps
    refine .inr (.inr ⟨_, _, _, _, _, _, _, _, rfl, m1, m2, da, ok, so, ?_, ?_, B⟩)
    · have g : x ∈ goodNames := by
        rcases B.fnCs with b | ⟨_, _, _, _, _, _, _, _, b, _, _⟩
        · exact b.cases.1
        · exact b.cases.1
      unfold goodNames at g
      simp only [List.mem_cons, List.not_mem_nil, or_false] at g
      rcases g with rfl | rfl | rfl | rfl | rfl <;> decide
    · rcases B.fnCs with b | ⟨_, _, _, _, _, _, _, _, b, _, e⟩
      · exact Nat.le_trans b.len (by decide)
      · have := b.len
        rw [e]
        simp only [List.length_cons, List.length_append, List.length_nil] at this ⊢
        omega
end
section
open PySem PySem.W PyProof.Rows PySem.Calls PySem.Spec
section
variable {G : Gx} {ρ : Rho} {led : Led}
theorem Gx.Ok.room (ok : G.Ok) : G.A.units < cLine := by have := ok.u; show G.un < 9900; omega
theorem Cm.eqTS {D : Addr} {x y : Value} {n : Nat} {b : Str} {u : Tok} {R : Bool → Led → Prop} (m : (D, pair x y n) ∈ led) (h : R false led) : Cm G .Eq (.ref D) (.str b u) ρ led R :=
  fun ok Φ s _ E I k z => have ⟨_, _, N, _⟩ := I.N; eqTS_N N (List.mem_append_left _ m) ok.room (k _ led s.heap s.toks I ⟨_, rfl, h⟩)
theorem Cm.eqL {a b : Addr} {vs ws : List Value} {n k : Nat} {R : Bool → Led → Prop} (ma : (a, listOf vs.toArray n) ∈ led) (mb : (b, listOf ws.toArray k) ∈ led) (hne : Nat.beq vs.length ws.length = false) (h : R false led) : Cm G .Eq (.ref a) (.ref b) ρ led R :=
  fun ok Φ s _ E I k z => have ⟨_, _, N, _⟩ := I.N; eqL_N N (List.mem_append_left _ ma) (List.mem_append_left _ mb) hne ok.room (k _ led s.heap s.toks I ⟨_, rfl, h⟩)
theorem Cm.eq0 {a b : Addr} {n k : Nat} {R : Bool → Led → Prop} (ma : (a, listOf #[] n) ∈ led) (mb : (b, listOf #[] k) ∈ led) (h : R true led) : Cm G .Eq (.ref a) (.ref b) ρ led R :=
  fun ok Φ s _ E I k z => have ⟨_, _, N, _⟩ := I.N; eq0_N (vs := []) (ws := []) N (List.mem_append_left _ ma) (List.mem_append_left _ mb) rfl rfl ok.room (k _ led s.heap s.toks I ⟨_, rfl, h⟩)
theorem Cm.neL {a b : Addr} {vs ws : List Value} {n k : Nat} {R : Bool → Led → Prop} (ma : (a, listOf vs.toArray n) ∈ led) (mb : (b, listOf ws.toArray k) ∈ led) (hne : Nat.beq vs.length ws.length = false) (h : R true led) : Cm G .NotEq (.ref a) (.ref b) ρ led R :=
  fun ok Φ s _ E I k z => have ⟨_, _, N, _⟩ := I.N; neL_N N (List.mem_append_left _ ma) (List.mem_append_left _ mb) hne ok.room (k _ led s.heap s.toks I ⟨_, rfl, h⟩)
/-- a mark: what is due is looked at -/
theorem Cm.look {v : Value} {b : Str} {u : Tok} {R : Bool → Led → Prop} (h : Cm G .Eq v (.str b u) ρ led R) : Cm G .Eq v (.str b u) ρ led R := h
end
end
section
open PySem PySem.W PyProof.Rows PySem.Calls PySem.Spec
abbrev lstO (ys : List Value) : Obj := listOf ys.toArray ys.length
/-- each item in its turn -/
noncomputable def MapC (F : Value → Led → (Value → Led → Prop) → Prop) (e : Addr × Obj) : List Value → Led → (List Value → Led → Prop) → Prop
  | [], led, K => K [] led
  | v :: vs, led, K => F v led fun r led' => e ∈ led' ∧ MapC F e vs led' fun ys led'' => K (r :: ys) led''
theorem MapC.nil {F : Value → Led → (Value → Led → Prop) → Prop} {e : Addr × Obj} {led : Led} {K : List Value → Led → Prop} (h : K [] led) : MapC F e [] led K := h
theorem MapC.cons {F : Value → Led → (Value → Led → Prop) → Prop} {e : Addr × Obj} {v : Value} {vs : List Value} {led : Led} {K : List Value → Led → Prop} (h : F v led fun r led' => e ∈ led' ∧ MapC F e vs led' fun ys led'' => K (r :: ys) led'') : MapC F e (v :: vs) led K := h
/-- nothing is raised in it, the frame stays m -/
abbrev Gx.calm (G : Gx) (m : Str → Option Value) : Gx := { G with ex := none, μ := fun m' => m' = m }
theorem Gx.Ok.calm {G : Gx} (ok : G.Ok) {m : Str → Option Value} : (G.calm m).Ok := ⟨ok.B, ok.K, ok.T, ok.f, ok.d, ok.u⟩
theorem Exc.calm {G : Gx} {m : Str → Option Value} {Φ : Led} {s : Shared} {E : Value → Shared → Prop} : Exc (G.calm m) Φ s E := fun _ h => (nomatch h)
section
open LCg
variable {G : Gx} {ρ : Rho} {elt : PySem.Expr} {x : Str} {scope : Scope} {cl : List (Str × Addr)} {F : Value → Led → (Value → Led → Prop) → Prop} {Φ : Led}
/-- the item's expression does what F says -/
def EltOk (G : Gx) (ρ : Rho) (elt : PySem.Expr) (x : Str) (scope : Scope) (cl : List (Str × Addr)) (F : Value → Led → (Value → Led → Prop) → Prop) : Prop :=
  ∀ (v : Value) (C : Addr) (oC : Obj) (m₂ : Str → Option Value) (s : Shared) (Φ led : Led) (K : Value → Led → Prop) (Q E : Value → Shared → Prop), NsObj oC m₂ → m₂ x = some v → (C, oC) ∈ Φ → G.Ok → Inv G Φ ρ led s.heap → F v led K → Exc G Φ s E →
    (∀ r led' h' tk', Inv G Φ ρ led' h' → K r led' → Q r { s with heap := h', toks := tk' }) → wpAny (model prog G.w) G.A (eval elt (compEnvC scope cl C G.env)) Q E s
theorem perm3 {a b c : Addr × Obj} {l k : Led} : (l ++ (k ++ a :: b :: c :: Φ)).Perm (a :: b :: c :: (l ++ (k ++ Φ))) := by
  rw [← List.append_assoc, ← List.append_assoc]
  refine List.perm_middle.trans (.cons _ ?_)
  refine List.perm_middle.trans (.cons _ ?_)
  exact List.perm_middle
theorem perm3_in {a b c : Addr × Obj} {l k : Led} {q : Addr × Obj} : q ∈ l ++ (k ++ a :: b :: c :: Φ) ↔ q ∈ a :: b :: c :: (l ++ (k ++ Φ)) := perm3.mem_iff
theorem perm3_nd {a b c : Addr × Obj} {l k : Led} : ((l ++ (k ++ a :: b :: c :: Φ)).map (·.1)).Nodup ↔ ((a :: b :: c :: (l ++ (k ++ Φ))).map (·.1)).Nodup := (perm3.map _).nodup_iff
theorem comp_rest {m : Str → Option Value} (he : EltOk (G.calm m) ρ elt x scope cl F) (ok : G.Ok) (hm : ∀ p ∈ ρ, m p.1 = some p.2) {s : Shared} {l : Addr} {all : List Value} {kk : Nat} {R : List Value → Led → Prop} :
    ∀ (vs ys : List Value) (i : Nat) (led sl : Led), all.drop i = vs → SrcL G.src sl → ((led ++ (sl ++ Φ)).map (·.1)).Nodup → MapC F (l, listOf all.toArray kk) vs led (fun zs led' => R (ys ++ zs) led') →
      CompRest prog G.w G.A G.g G.L m G.env elt x scope cl s (SrcAt G.g l all.toArray) (fun i v => all.toArray[i]? = some v) (fun ys news => ∃ led sl, SrcL G.src sl ∧ news = led ++ (sl ++ Φ) ∧ ((led ++ (sl ++ Φ)).map (·.1)).Nodup ∧ R ys led) vs.length i ys (led ++ (sl ++ Φ)) := by
  intro vs
  induction vs with
  | nil =>
    intro ys i led sl hd hsl hn h
    exact CompRest.zero ⟨led, sl, hsl, rfl, hn, by have h : R (ys ++ []) led := h; rw [List.append_nil] at h; exact h⟩
  | cons v vs ih =>
    intro ys i led sl hd hsl hn h
    refine CompRest.succ fun v' I oI C oC D m₂ h₁ tk E' hP ho hx F₁ N₁ off ne => ?_
    obtain rfl : v' = v := by
      have h1 : all[i]? = some v := by
        have := congrArg (fun l => l[0]?) hd
        simpa using this
      have h2 : all[i]? = some v' := by simpa using hP
      exact Option.some.inj (h2.symm.trans h1)
    have nd : (((I, oI) :: (C, oC) :: (D, LCg.lst ys) :: (led ++ (sl ++ Φ))).map (·.1)).Nodup := by
      have o1 := off.mem
      refine List.nodup_cons.mpr ⟨fun c => ?_, List.nodup_cons.mpr ⟨fun c => ?_, List.nodup_cons.mpr ⟨fun c => ?_, hn⟩⟩⟩
      · obtain ⟨q, hq, e⟩ := List.mem_map.mp c
        rcases List.mem_cons.mp hq with rfl | hq
        · exact ne.1 e.symm
        · rcases List.mem_cons.mp hq with rfl | hq
          · exact ne.2.1 e.symm
          · exact (o1 q hq).1 e
      · obtain ⟨q, hq, e⟩ := List.mem_map.mp c
        rcases List.mem_cons.mp hq with rfl | hq
        · exact ne.2.2 e.symm
        · exact (o1 q hq).2.1 e
      · obtain ⟨q, hq, e⟩ := List.mem_map.mp c
        exact (o1 q hq).2.2 e
    refine he v' C oC m₂ { s with heap := h₁, toks := tk } ((I, oI) :: (C, oC) :: (D, LCg.lst ys) :: Φ) led _ _ E' ho hx (.tail _ (.head _)) ok.calm ⟨⟨m, F₁, rfl, hm⟩, sl, hsl, fun q hq => N₁ q (perm3_in.mp hq), perm3_nd.mpr nd⟩ h Exc.calm fun r led' h' tk' I' hr => ?_
    obtain ⟨m', F', rfl, hm'⟩ := I'.F
    obtain ⟨sl', hsl', N', D'⟩ := I'.N
    have D3 := perm3_nd.mp D'
    have d1 := List.nodup_cons.mp D3
    have d2 := List.nodup_cons.mp d1.2
    have d3 := List.nodup_cons.mp d2.2
    obtain ⟨hl, hr⟩ := hr
    have off3 : ∀ p ∈ led' ++ (sl' ++ Φ), p.1 ≠ I ∧ p.1 ≠ C ∧ p.1 ≠ D := fun p hp =>
      have hp' := List.mem_map_of_mem (f := (·.1)) hp
      ⟨fun e => d1.1 (.tail _ (.tail _ (e ▸ hp'))), fun e => d2.1 (.tail _ (e ▸ hp')), fun e => d3.1 (e ▸ hp')⟩
    exact CompEnd.intro F' N' (led' ++ (sl' ++ Φ)) (fun p hp => perm3_in.mpr hp) (Off3.of off3) (.inr ⟨_, List.mem_append_left _ hl, rfl, _, rfl⟩) (ih (ys ++ [r]) (i + 1) led' sl' (by rw [← List.drop_drop, hd]; rfl) hsl' d3.2 (by
      have hr : MapC F (l, listOf all.toArray kk) vs led' (fun zs led'' => R (ys ++ r :: zs) led'') := hr
      simpa using hr))
end
end
section
open PySem PySem.W PyProof.Rows PySem.Calls PySem.Spec
theorem off1_mem {D : Addr} : ∀ {l : Led}, LCg.Off1 D l → ∀ p ∈ l, p.1 ≠ D
  | [], _, _, h => nomatch h
  | _ :: _, x, p, h => by
    rcases List.mem_cons.mp h with rfl | h
    · exact x.1
    · exact off1_mem x.2 p h
theorem comp_fin {w : World} {A : Around} {h₀ : Heap} {L : Addr} {m : Str → Option Value} {env : Env} {elt : PySem.Expr} {x : Str} {scope : Scope} {cl : List (Str × Addr)} {s : Shared} {S : Led → Prop} {P : Nat → Value → Prop} {Fin Fin' : List Value → Led → Prop} (hF : ∀ ys news, Fin ys news → Fin' ys news) :
    ∀ {n i : Nat} {ys : List Value} {news : Led}, LCg.CompRest prog w A h₀ L m env elt x scope cl s S P Fin n i ys news → LCg.CompRest prog w A h₀ L m env elt x scope cl s S P Fin' n i ys news := by
  intro n
  induction n with
  | zero => exact fun h => hF _ _ h
  | succ n ih =>
    intro i ys news h v I oI C oC D m₂ h1 tk E' a1 a2 a3 a4 a5 a6 a7
    refine wpAny_mono (h v I oI C oC D m₂ h1 tk E' a1 a2 a3 a4 a5 a6 a7) (fun y s2 q => ?_) fun _ _ h => h
    obtain ⟨h', tk', news', e, F, N, o, hS, r⟩ := q
    exact ⟨h', tk', news', e, F, N, o, hS, ih r⟩
section
variable {G : Gx} {ρ : Rho} {led : Led}
/-- the frame held -/
abbrev Gx.hold (G : Gx) (m : Str → Option Value) : Gx := { G with μ := fun m' => m' = m }
/-- a list comprehension over a list of the ledger -/
theorem Ex.comp {elt iter : PySem.Expr} {x : Str} {px : Pos} {scope : Scope} {pos : Pos} {F : Value → Led → (Value → Led → Prop) → Prop} {R : Value → Led → Prop}
    (hclos : closureFor scope G.env = pure []) (hcell : (scope.names.all fun y => y.2 != .cell) = true) (hkind : scope.kind = .function)
    (hnames : (scope.names.all fun y => (y.2 != .local) || decide (scope.names.lookup y.1 = some .local)) = true) (hx : scope.names.lookup x = some .local)
    (he : ∀ m, EltOk (G.calm m) ρ elt x scope [] F) (hf : ∀ env v, foldedSetIterable iter env v = pure v)
    (h : ∀ m, Ex (G.hold m) iter ρ led fun v led1 => ∃ a vs k, v = .ref a ∧ (a, listOf vs.toArray k) ∈ led1 ∧ vs.length ≤ 100 ∧ MapC F (a, listOf vs.toArray k) vs led1 fun ys led2 => ∀ D, R (.ref D) ((D, lstO ys) :: led2)) :
    Ex G (.ListComp elt [⟨.Name x px, iter, [], 0⟩] scope pos) ρ led R :=
  fun ok Φ s Q E I k y => by
    obtain ⟨m, F₀, hμ, hm⟩ := id I.F
    refine LCg.ListComp_U (F₀ := F₀) hclos (fun y hy => by simpa using List.all_eq_true.mp hcell y hy) hkind (fun y hy hl => by
      have := List.all_eq_true.mp hnames y hy
      rw [hl] at this
      simpa using this) hx (h m ⟨ok.B, ok.K, ok.T, ok.f, ok.d, ok.u⟩ Φ s _ E ⟨⟨m, F₀, rfl, hm⟩, I.N⟩ (fun v led1 h1 t1 I1 q => ?_) y) (hf _)
    obtain ⟨a, vs, kk, rfl, ma, hlen, q⟩ := q
    obtain ⟨m1, F1, rfl, hm1⟩ := I1.F
    obtain ⟨sl, hsl, N, D⟩ := I1.N
    have hsl : SrcL G.src sl := hsl
    refine LCg.CompSrc.ledger rfl F1 N (List.mem_append_left _ ma) (by rw [sizeLine_eq]; simp; omega) fun g => ?_
    have hr := comp_rest (Φ := Φ) (s := { s with heap := g, toks := t1 }) (he m1) ok hm vs [] 0 led1 sl rfl hsl D (R := fun ys led2 => ∀ D, R (.ref D) ((D, lstO ys) :: led2)) q
    have e : vs.length = vs.toArray.size := by simp
    rw [← e]
    refine comp_fin ?_ hr
    rintro ys news ⟨led2, sl2, hsl2, rfl, Dn, r⟩ D2 h' tk F' N' o1
    have o1 := off1_mem o1
    exact k (.ref D2) ((D2, lstO ys) :: led2) h' tk ⟨⟨m1, F', hμ, hm⟩, sl2, hsl2, N', List.nodup_cons.mpr ⟨fun c => by
      obtain ⟨p, hp, e⟩ := List.mem_map.mp c
      exact o1 p hp e, Dn⟩⟩ (r D2)
end
end
section
open PySem PySem.W PyProof.Rows PySem.Calls PySem.Spec
/-- the method row of what a names -/
def HasRow (led : Led) (a f : Addr) : Prop := ∃ D d es n, (a, instObj D d) ∈ led ∧ (d, dictOf es n) ∈ led ∧ rowD.contains (D, f) = true ∧ getL "row" es = some none
theorem HasRow.of {led : Led} {a f D d : Addr} {es : List DictEntry} {n : Nat} (m : (a, instObj D d) ∈ led) (m2 : (d, dictOf es n) ∈ led) (h : rowD.contains (D, f) = true) (hl : getL "row" es = some none) : HasRow led a f := ⟨D, d, es, n, m, m2, h, hl⟩
theorem HasRow.mono {led led' : Led} {a f : Addr} (sub : ∀ q ∈ led', q ∈ led) : HasRow led' a f → HasRow led a f := fun ⟨D, d, es, n, a, b, c⟩ => ⟨D, d, es, n, sub _ a, sub _ b, c⟩
theorem PatIn.hasRow {led : Led} {a : Addr} {p : PE} (R : PatIn led a p) : HasRow led a (rowFn p) := by
  cases R with
  | lit a b => exact .of a b rfl rfl
  | chr a b => exact .of a b rfl rfl
  | con a b c => exact .of a b rfl rfl
  | var a b => exact .of a b rfl rfl
  | app a b c _ => exact .of a b rfl rfl
  | paren a b _ => exact .of a b rfl rfl
  | tup a b c _ _ => exact .of a b rfl rfl
  | neg a b => exact .of a b rfl rfl
  | two a b c d e _ _ => exact .of a b rfl rfl
theorem keep_tab (P : Params) : (rowD.all fun q => keepIn (KF P) (.ref q.2)) = true := by kernel_rfl
theorem HasRow.keep {led : Led} {a f : Addr} (P : Params) (h : HasRow led a f) : keepIn (KF P) (.ref f) = true := by
  obtain ⟨D, _, _, _, _, _, h, _⟩ := h
  exact of_all (keep_tab P) h
section
variable {G : Gx} {ρ : Rho} {led : Led}
theorem Gm.row {a f : Addr} {R : Value → List Value → Led → Prop} (H : HasRow led a f) (h : R (.ref f) [.ref a] led) : Gm G (.ref a) "row" ρ led R :=
  fun pl ok Φ s _ E I k _ => by
    obtain ⟨m, F, _⟩ := I.F
    obtain ⟨sl, hsl, N, D⟩ := I.N
    obtain ⟨D, d, es, n, m1, m2, h1, h2⟩ := H
    exact row_at N F ok.K (List.mem_append_left _ m1) (List.mem_append_left _ m2) h1 h2 (k (_, _) led s.heap s.toks I h)
theorem Gm.list {D : Addr} {its : Array Value} {n : Nat} {x : Str} {id : String} {R : Value → List Value → Led → Prop} (m : (D, listOf its n) ∈ led) (slot : Slot "list" x id) (hty : typeOf (.builtin id) = pure (.type "method_descriptor")) (h : R (.builtin id) [.ref D] led) : Gm G (.ref D) x ρ led R :=
  fun pl ok Φ s _ E I k _ => by
    obtain ⟨sl, hsl, N, _⟩ := I.N
    exact listMethod_K N (List.mem_append_left _ m) slot hty (k (_, _) led s.heap s.toks I h)
theorem Ca.app {D : Addr} {vs : List Value} {n : Nat} {x : Value} {R : Value → Led → Prop} (m : (D, listOf vs.toArray n) ∈ led) (hz : vs.length ≤ 1000) (h : ∃ led', At D (listOf vs.toArray n) (listOf (vs ++ [x]).toArray (n + 1)) led led' ∧ R .none led') : Ca G (.builtin "list.append") [.ref D, x] ρ led R :=
  fun ok Φ s _ E I k y => by
    obtain ⟨mm, F, hm⟩ := I.F
    obtain ⟨sl, hsl, N, Dd⟩ := I.N
    obtain ⟨led', U, r⟩ := h
    obtain ⟨U1, D1⟩ := U.upd Dd
    refine append_K (its := vs.toArray) (n := n) F N (by rw [List.push_toArray]; exact U1) (fun h' F' N' => k _ led' h' s.toks ⟨⟨mm, F', hm⟩, sl, hsl, N', D1⟩ r) (by rw [sizeLine_eq]; simp; omega)
theorem Ca.rev {D : Addr} {vs : List Value} {n : Nat} {R : Value → Led → Prop} (m : (D, listOf vs.toArray n) ∈ led) (hz : vs.length ≤ 1000) (h : ∃ led', At D (listOf vs.toArray n) (listOf vs.reverse.toArray n) led led' ∧ R .none led') : Ca G (.builtin "list.reverse") [.ref D] ρ led R :=
  fun ok Φ s _ E I k y => by
    obtain ⟨mm, F, hm⟩ := I.F
    obtain ⟨sl, hsl, N, Dd⟩ := I.N
    obtain ⟨led', U, r⟩ := h
    obtain ⟨U1, D1⟩ := U.upd Dd
    exact kl_reverse F N (its := vs.toArray) (by simp) U1 (by rw [sizeLine_eq]; simp; omega) (fun h' F' N' => k _ led' h' s.toks ⟨⟨mm, F', hm⟩, sl, hsl, N', D1⟩ r)
abbrev tpO (vs : List Value) : Obj := { cls := .type "tuple", data := .seq vs.toArray }
theorem Ca.tupL {l : Addr} {vs : List Value} {n : Nat} {R : Value → Led → Prop} (m : (l, listOf vs.toArray n) ∈ led) (hz : vs.length ≤ 1000) (h : ∀ D, R (.ref D) ((D, tpO vs) :: led)) : Ca G (.type "tuple") [.ref l] ρ led R :=
  fun ok Φ s _ E I k y => by
    obtain ⟨mm, F, hm⟩ := I.F
    obtain ⟨sl, hsl, N, Dd⟩ := I.N
    exact kde_tupleOf F N (N.isList (List.mem_append_left _ m)) (by simp; omega) rfl fun D h' F' N' l => k _ ((D, tpO vs) :: led) h' s.toks ⟨⟨mm, F', hm⟩, sl, hsl, N', nodup_cons l Dd⟩ (h D)
theorem Ga.node {a d D : Addr} {es : List DictEntry} {n : Nat} {x : Str} {v : Value} {R : Value → Led → Prop} (m1 : (a, instObj D d) ∈ led) (m2 : (d, dictOf es n) ∈ led) (hD : nodeDs.contains D = true) (hx : nodeAs.contains x = true) (hl : getL x es = some (some v)) (hv : handedIn v = true) (h : R v led) : Ga G (.ref a) x ρ led R :=
  fun b ok Φ s _ E I k y => by
    obtain ⟨mm, F, hm⟩ := I.F
    obtain ⟨sl, hsl, N, Dd⟩ := I.N
    exact attr_N N F ok.K (List.mem_append_left _ m1) (List.mem_append_left _ m2) hD hx hl hv (k v led s.heap _ I h)
theorem Ca.isi {a d D C : Addr} {od : Obj} {R : Value → Led → Prop} (m1 : (a, instObj D d) ∈ led) (m2 : (d, od) ∈ led) (hD : nodeDs.contains D = true) (hC : nodeCs.contains C = true) (c : Bool) (hb : (D == C) = c) (h : R (.bool c) led) : Ca G (.builtin "isinstance") [.ref a, .ref C] ρ led R :=
  fun ok Φ s _ E I k y => by
    obtain ⟨mm, F, hm⟩ := I.F
    obtain ⟨sl, hsl, N, Dd⟩ := I.N
    exact isi_any N F ok.K (List.mem_append_left _ m1) (List.mem_append_left _ m2) hD hC hb fun tk => k _ led s.heap tk I h
theorem Ca.isiP {a : Addr} {led' : Led} {p : PE} {R : Value → Led → Prop} (P : PIn led' a p) (sub : ∀ q ∈ led', q ∈ led) (h : R (.bool false) led) : Ca G (.builtin "isinstance") [.ref a, .ref 360] ρ led R :=
  have ⟨_, _, _, m1, m2, hD, hb⟩ := P.node
  .isi (sub _ m1) (sub _ m2) hD rfl false hb h
theorem Ca.isiT {a d D tp : Addr} {od : Obj} {n : Nat} {R : Value → Led → Prop} (m1 : (a, instObj D d) ∈ led) (m2 : (d, od) ∈ led) (mt : (tp, (⟨.type "tuple", none, .seq #[.ref 522, .ref 657, .ref 684, .ref 711] n, #[]⟩ : Obj)) ∈ led) (hD : nodeDs.contains D = true) (h : R (.bool false) led) : Ca G (.builtin "isinstance") [.ref a, .ref tp] ρ led R :=
  fun ok Φ s _ E I k y => by
    obtain ⟨mm, F, hm⟩ := I.F
    obtain ⟨sl, hsl, N, Dd⟩ := I.N
    exact isi_tup N F ok.K (List.mem_append_left _ m1) (List.mem_append_left _ m2) (List.mem_append_left _ mt) hD fun tk => k _ led s.heap tk I h
theorem Ca.isiA {a d D tp : Addr} {od : Obj} {n : Nat} {R : Value → Led → Prop} (m1 : (a, instObj D d) ∈ led) (m2 : (d, od) ∈ led) (mt : (tp, (⟨.type "tuple", none, .seq #[.ref 279, .ref 333] n, #[]⟩ : Obj)) ∈ led) (hD : nodeDs.contains D = true) (c : Bool) (hb : (D == 279 || D == 333) = c) (h : R (.bool c) led) : Ca G (.builtin "isinstance") [.ref a, .ref tp] ρ led R :=
  fun ok Φ s _ E I k y => by
    obtain ⟨mm, F, hm⟩ := I.F
    obtain ⟨sl, hsl, N, Dd⟩ := I.N
    exact isi_tupA N F ok.K (List.mem_append_left _ m1) (List.mem_append_left _ m2) (List.mem_append_left _ mt) hD hb fun tk => k _ led s.heap tk I h
end
theorem isi_glob (P : Params) : nsIn (KF P) mainGlobals "isinstance" = some none := by kernel_rfl
/-- the names of a test isinstance(x, cls) -/
def isiN (sc : Scope) (x cls : Str) : Bool := decide (sc.names.lookup ("isinstance" : Str) = some .globalImplicit) && (decide (sc.names.lookup x = some .local) && (decide (sc.names.lookup cls = some .globalImplicit) && (!(x == ("__debug__" : Str)) && !(cls == ("__debug__" : Str)))))
def isiD (D C : Addr) (c : Bool) : Bool := nodeDs.contains D && (nodeCs.contains C && ((D == C) == c))
section
variable {G : Gx} {ρ : Rho} {led : Led} {sc : Scope} {x y cls : Str} {p1 p2 p3 p4 p5 : Pos} {a d D C : Addr}
/-- isinstance(x, cls) -/
theorem Te.isiX {od : Obj} {R : Bool → Led → Prop} (c : Bool) (hs : G.sc = sc) (hv : (x, .ref a) ∈ ρ) (hn : isiN sc x cls = true) (hg : nsIn (KF G.w.params) mainGlobals cls = some (some (.ref C))) (m1 : (a, instObj D d) ∈ led) (m2 : (d, od) ∈ led) (hD : isiD D C c = true) (h : R c led) : Te G (.Call (.Name "isinstance" p1) [.Name x p2, .Name cls p3] [] p4) ρ led R := by
  unfold isiN at hn
  unfold isiD at hD
  simp only [Bool.and_eq_true, decide_eq_true_eq, Bool.not_eq_true'] at hn hD
  obtain ⟨n1, n2, n3, n4, n5⟩ := hn
  obtain ⟨d1, d2, d3⟩ := hD
  exact .plain (fun _ _ => rfl) (.callB hs (isi_glob _) boot_isinstance (by decide) n1 (by kernel_rfl) rfl (.loc hs hv n2 n4 (.cons rfl (.glo hs hg n3 n5 (.nil (.isi m1 m2 d1 d2 c (beq_iff_eq.mp d3) ⟨_, rfl, h⟩))))))
/-- if isinstance(x, cls): …, and it is not -/
theorem Ss.isiN {od : Obj} {body rest : List Stmt} {R : Flow → Rho → Led → Prop} (hs : G.sc = sc) (hv : (x, .ref a) ∈ ρ) (hn : Mine.isiN sc x cls = true) (hg : nsIn (KF G.w.params) mainGlobals cls = some (some (.ref C))) (m1 : (a, instObj D d) ∈ led) (m2 : (d, od) ∈ led) (hD : isiD D C false = true) (h : Ss G rest ρ led R) : Ss G (.If (.Call (.Name "isinstance" p1) [.Name x p2, .Name cls p3] [] p4) body [] p5 :: rest) ρ led R :=
  .iteN (.isiX false hs hv hn hg m1 m2 hD h)
/-- x.y -/
theorem Ex.attrX {es : List DictEntry} {n : Nat} {v : Value} {R : Value → Led → Prop} (hs : G.sc = sc) (hv : (x, .ref a) ∈ ρ) (hn : locN sc x = true) (m1 : (a, instObj D d) ∈ led) (m2 : (d, dictOf es n) ∈ led) (hD : (nodeDs.contains D && nodeAs.contains y) = true) (hl : getL y es = some (some v)) (hh : handedIn v = true) (h : R v led) : Ex G (.Attribute (.Name x p1) y p2) ρ led R :=
  have hD := Bool.and_eq_true_iff.mp hD
  .attr (.loc hs hv (locN.to hn).1 (locN.to hn).2 (.node m1 m2 hD.1 hD.2 hl hh h))
/-- x[i] -/
theorem Ex.itemX {l : Addr} {o : Obj} {vs : List Value} {i : Int} {n : Nat} {v : Value} {R : Value → Led → Prop} (hs : G.sc = sc) (hv : (x, .ref l) ∈ ρ) (hn : locN sc x = true) (m : (l, o) ∈ led) (ho : SeqO o vs) (hi : (decide (0 ≤ i) && decide (i < 2 ^ 63)) = true) (hx : vs[i.toNat]? = some v) (h : R v led) : Ex G (.Subscript (.Name x p1) (.Constant (.int i) n p2) p3) ρ led R :=
  have hi := Bool.and_eq_true_iff.mp hi
  .sub (.loc hs hv (locN.to hn).1 (locN.to hn).2 (.int fun t => .item m ho (of_decide_eq_true hi.1) (of_decide_eq_true hi.2) hx rfl h))
end
end
section
open PySem PySem.W PyProof.Rows PySem.Calls PySem.Spec
/-- an item is handed to f -/
def FRd (w : World) (k : Nat) (f : Addr) (v : Value) (led : Led) (K : Value → Led → Prop) : Prop :=
  ∃ n led0 Out, RD w n f [v] led0 Out ∧ n ≤ k ∧ (∀ q ∈ led0, q ∈ led) ∧ ∀ r tl, (∀ q ∈ tl ++ led0, q ∈ tl ++ led) → Out (tl ++ led0) r → K r (tl ++ led)
/-- an item is asked for its row -/
def FRow (w : World) (k : Nat) (v : Value) (led : Led) (K : Value → Led → Prop) : Prop :=
  ∃ a f, v = .ref a ∧ HasRow led a f ∧ FRd w k f v led K
theorem FRd.mk {w w' : World} {k n : Nat} {f : Addr} {v : Value} {led led0 : Led} {Out : Led → Value → Prop} {K : Value → Led → Prop} (hw : w' = w) (hn : n ≤ k) (C : RD w n f [v] led0 Out) (sub : ∀ q ∈ led0, q ∈ led) (h : ∀ r tl, (∀ q ∈ tl ++ led0, q ∈ tl ++ led) → Out (tl ++ led0) r → K r (tl ++ led)) : FRd w' k f v led K :=
  hw ▸ ⟨n, led0, Out, C, hn, sub, h⟩
theorem FRow.mk {w w' : World} {k n : Nat} {a f : Addr} {led led0 : Led} {Out : Led → Value → Prop} {K : Value → Led → Prop} (H : HasRow led a f) (hw : w' = w) (hn : n ≤ k) (C : RD w n f [.ref a] led0 Out) (sub : ∀ q ∈ led0, q ∈ led) (h : ∀ r tl, (∀ q ∈ tl ++ led0, q ∈ tl ++ led) → Out (tl ++ led0) r → K r (tl ++ led)) : FRow w' k (.ref a) led K :=
  ⟨a, f, rfl, H, .mk hw hn C sub h⟩
theorem lookup_relabel {env : Env} {k : NameKind} (hk : (k == NameKind.free) = false) : ∀ {names : List (Str × NameKind)} {x : Str}, names.lookup x = some k →
    (names.map fun (n, k) => if (k == NameKind.free && env.scope.kind == .function && env.kindOf n == some .cell) then (n, NameKind.cell) else (n, k)).lookup x = some k
  | [], _, h => by simp at h
  | (n, k') :: r, x, h => by
    have ih := @lookup_relabel env k hk r x
    show List.lookup x ((if (k' == NameKind.free && env.scope.kind == .function && env.kindOf n == some .cell) = true then (n, NameKind.cell) else (n, k')) :: _) = _
    cases hx : x == n with
    | true =>
      simp only [List.lookup_cons, hx] at h
      cases h
      simp [List.lookup_cons, hx, hk]
    | false =>
      simp only [List.lookup_cons, hx] at h
      by_cases hc : (k' == NameKind.free && env.scope.kind == .function && env.kindOf n == some .cell) = true
      · rw [if_pos hc]; simp only [List.lookup_cons, hx]; exact ih h
      · rw [if_neg hc]; simp only [List.lookup_cons, hx]; exact ih h
section
variable {G : Gx} {ρ : Rho} {x : Str} {scope : Scope}
theorem FRd.ca {f : Addr} {v : Value} {led : Led} {K : Value → Led → Prop} (h : FRd G.w G.k f v led K) : Ca G (.ref f) [v] ρ led K :=
  have ⟨_, _, _, C, hn, sub, h⟩ := h
  .rd rfl hn C sub h
theorem EltOk.call {fn : Str} {f : Addr} {np px cp : Pos} (hg : nsIn (KF G.w.params) mainGlobals fn = some (some (.ref f))) (hf : keepIn (KF G.w.params) (.ref f) = true) (hk : scope.names.lookup fn = some .globalImplicit) (hd : (fn == ("__debug__" : Str)) = false)
    (hkind : scope.kind = .function) (hx : scope.names.lookup x = some .local) (hxd : (x == ("__debug__" : Str)) = false) : EltOk G ρ (.Call (.Name fn np) [.Name x px] [] cp) x scope [] (FRd G.w G.k f) := by
  intro v C oC m₂ s Φ led K Q E hC hx2 hm ok I h y k
  obtain ⟨mm, F, hm'⟩ := id I.F
  obtain ⟨sl, hsl, N, Dd⟩ := id I.N
  obtain ⟨_, _, _, _, _, T⟩ := ok.T
  refine Call_ (LCgL.ld_global F ok.K T hg ?_ rfl hkind (lookup_relabel rfl hk) hd) rfl
  refine callWith_K ok.K hf (spliced_more (LCgL.ld_own N (List.mem_append_right _ (List.mem_append_right _ hm)) hC hx2 (spliced_none ⟨ok.K.keeps F.keep, ?_⟩) hkind (lookup_relabel rfl hx) hxd))
  exact h.ca (ρ := ρ) ok Φ s Q E I k y
theorem EltOk.row {px ap cp : Pos} (he : ∀ env, ∃ pl, eval (.Call (.Attribute (.Name x px) "row" ap) [] [] cp) env = (do let ov ← eval (.Name x px) env; standAt ap.atName; let __x ← holding [ov] (getMethod ov "row" pl); match __x with | (f, first) => callWith cp f first (backTo cp (starEach [] env)) [])) 
    (hkind : scope.kind = .function) (hx : scope.names.lookup x = some .local) (hxd : (x == ("__debug__" : Str)) = false) : EltOk G ρ (.Call (.Attribute (.Name x px) "row" ap) [] [] cp) x scope [] (FRow G.w G.k) := by
  intro v C oC m₂ s Φ led K Q E hC hx2 hm ok I h y k
  obtain ⟨a, f, rfl, H, h⟩ := h
  obtain ⟨mm, F, hm'⟩ := id I.F
  obtain ⟨sl, hsl, N, Dd⟩ := id I.N
  obtain ⟨pl, he⟩ := he (compEnvC scope [] C G.env)
  refine MethodCall_ (pl := pl) (LCgL.ld_own N (List.mem_append_right _ (List.mem_append_right _ hm)) hC hx2 ?_ hkind (lookup_relabel rfl hx) hxd) he
  refine Gm.row (ρ := ρ) (R := fun f' first led' => f' = .ref f ∧ first = [.ref a] ∧ led' = led) H ⟨rfl, rfl, rfl⟩ _ ok Φ s _ E I (fun v led1 h1 t1 I1 q => ?_) y
  obtain ⟨e1, e2, e3⟩ := q
  obtain ⟨v1, v2⟩ := v
  dsimp only at e1 e2
  subst e1 e2 e3
  obtain ⟨mm1, F1, _⟩ := id I1.F
  exact callWith_K0 (ok.K.keeps F1.keep) (H.keep _) (h.ca (ρ := ρ) ok Φ _ Q E I1 k y)
end
/-- [f(x) for x in xs] -/
theorem Ex.compF {G : Gx} {ρ : Rho} {led : Led} {iter : PySem.Expr} {x : Str} {px : Pos} {scope : Scope} {pos : Pos} {R : Value → Led → Prop} {fn : Str} {f : Addr} {np px' cp : Pos} (hg : nsIn (KF G.w.params) mainGlobals fn = some (some (.ref f))) (hf : keepIn (KF G.w.params) (.ref f) = true) (hk : scope.names.lookup fn = some .globalImplicit) (hd : (fn == ("__debug__" : Str)) = false) (hxd : (x == ("__debug__" : Str)) = false)
    (hclos : closureFor scope G.env = pure []) (hcell : (scope.names.all fun y => y.2 != .cell) = true) (hkind : scope.kind = .function)
    (hnames : (scope.names.all fun y => (y.2 != .local) || decide (scope.names.lookup y.1 = some .local)) = true) (hx : scope.names.lookup x = some .local) (hfs : ∀ env v, foldedSetIterable iter env v = pure v)
    (h : ∀ m, Ex (G.hold m) iter ρ led fun v led1 => ∃ a vs k, v = .ref a ∧ (a, listOf vs.toArray k) ∈ led1 ∧ vs.length ≤ 100 ∧ MapC (FRd G.w G.k f) (a, listOf vs.toArray k) vs led1 fun ys led2 => ∀ D, R (.ref D) ((D, lstO ys) :: led2)) :
    Ex G (.ListComp (.Call (.Name fn np) [.Name x px'] [] cp) [⟨.Name x px, iter, [], 0⟩] scope pos) ρ led R :=
  .comp hclos hcell hkind hnames hx (fun m => EltOk.call (G := G.calm m) hg hf hk hd hkind hx hxd) hfs h
/-- [x.row() for x in xs] -/
theorem Ex.compR {G : Gx} {ρ : Rho} {led : Led} {iter : PySem.Expr} {x : Str} {px : Pos} {scope : Scope} {pos : Pos} {R : Value → Led → Prop} {ap px' cp : Pos} (hxd : (x == ("__debug__" : Str)) = false)
    (he : ∀ env, ∃ pl, eval (.Call (.Attribute (.Name x px') "row" ap) [] [] cp) env = (do let ov ← eval (.Name x px') env; standAt ap.atName; let __x ← holding [ov] (getMethod ov "row" pl); match __x with | (f, first) => callWith cp f first (backTo cp (starEach [] env)) [])) 
    (hclos : closureFor scope G.env = pure []) (hcell : (scope.names.all fun y => y.2 != .cell) = true) (hkind : scope.kind = .function)
    (hnames : (scope.names.all fun y => (y.2 != .local) || decide (scope.names.lookup y.1 = some .local)) = true) (hx : scope.names.lookup x = some .local) (hfs : ∀ env v, foldedSetIterable iter env v = pure v)
    (h : ∀ m, Ex (G.hold m) iter ρ led fun v led1 => ∃ a vs k, v = .ref a ∧ (a, listOf vs.toArray k) ∈ led1 ∧ vs.length ≤ 100 ∧ MapC (FRow G.w G.k) (a, listOf vs.toArray k) vs led1 fun ys led2 => ∀ D, R (.ref D) ((D, lstO ys) :: led2)) :
    Ex G (.ListComp (.Call (.Attribute (.Name x px') "row" ap) [] [] cp) [⟨.Name x px, iter, [], 0⟩] scope pos) ρ led R :=
  .comp hclos hcell hkind hnames hx (fun m => EltOk.row (G := G.calm m) he hkind hx hxd) hfs h
end
section
open PySem PySem.W PyProof.Rows PySem.Calls PySem.Spec
theorem PatIn.rowIn {led led' : Led} {a : Addr} {p : PE} (R : PatIn led' a p) (sub : ∀ q ∈ led', q ∈ led) : HasRow led a (rowFn p) := (PatIn.hasRow R).mono sub
theorem RDs.le {Ps : Option Addr → Prop} {w : World} {n N : Nat} {f : Addr} {vs : List Value} {led : Led} {O : Led → Value → Prop} (h : n ≤ N) (C : RDs Ps w n f vs led O) : RDs Ps w N f vs led O :=
  fun G ρ all R hw hn => C G ρ all R hw (Nat.le_trans h hn)
theorem RD.enterPos {w : World} {N : Nat} {f : Addr} {vs : List Value} {led : Led} {scope : Scope} {body : List Stmt} {binds : Rho} {Out : Led → Value → Prop} (hN : 1 ≤ N) (H : FnOk w f vs scope body binds)
    (hb : ∀ (G : Gx) (all : Led), G.w = w → G.sc = scope → N - 1 ≤ G.k → (∀ q ∈ led, q ∈ all) → Ss G body binds all fun fl _ led' => Fin all (fun tl v => Out (tl ++ led) v) (retOf fl) led') : RD w N f vs led Out :=
  RDs.le (by omega) (RD.enter H hb)
theorem Cw.m0 {G : Gx} {ρ : Rho} {led : Led} {f : Addr} {v : Value} {R : Value → Led → Prop} (hf : keepIn (KF G.w.params) (.ref f) = true) (h : Ca G (.ref f) [v] ρ led R) : Cw G (.ref f) [v] [] ρ led R := Cw.fn0 hf h
theorem MapC.mono {F : Value → Led → (Value → Led → Prop) → Prop} {e : Addr × Obj} (hF : ∀ v led K K', (∀ r led', K r led' → K' r led') → F v led K → F v led K') :
    ∀ {vs : List Value} {led : Led} {K K' : List Value → Led → Prop}, MapC F e vs led K → (∀ ys led', ys.length = vs.length → K ys led' → K' ys led') → MapC F e vs led K'
  | [], led, K, K', h, k => k [] led rfl h
  | v :: vs, led, K, K', h, k => hF v led _ _ (fun r led' ⟨a, b⟩ => ⟨a, MapC.mono hF b fun ys led2 e h => k (r :: ys) led2 (congrArg (· + 1) e) h⟩) h
theorem FRd.mono {w : World} {k : Nat} {f : Addr} : ∀ (v : Value) (led : Led) (K K' : Value → Led → Prop), (∀ r led', K r led' → K' r led') → FRd w k f v led K → FRd w k f v led K' :=
  fun v led K K' h ⟨n, l0, O, C, hn, sub, q⟩ => ⟨n, l0, O, C, hn, sub, fun r tl a b => h _ _ (q r tl a b)⟩
theorem FRow.mono {w : World} {k : Nat} : ∀ (v : Value) (led : Led) (K K' : Value → Led → Prop), (∀ r led', K r led' → K' r led') → FRow w k v led K → FRow w k v led K' :=
  fun v led K K' h ⟨a, f, e, H, q⟩ => ⟨a, f, e, H, q.mono v led K K' h⟩
end
section
open PySem PySem.W PyProof.Rows PySem.Calls PySem.Spec
def Wh (G : Gx) (test : PySem.Expr) (body : List Stmt) (ρ : Rho) (led : Led) (R : Flow → Rho → Led → Prop) : Prop :=
  G.Ok → ∀ (Φ : Led) (s : Shared) (Q : Flow → Shared → Prop) (E : Value → Shared → Prop), Inv G Φ ρ led s.heap → (∀ fl ρ' led' h' tk', Inv G Φ ρ' led' h' → R fl ρ' led' → Q fl { s with heap := h', toks := tk' }) → ExcS G Φ s E →
    WhlRest prog G.w G.A E G.env test body [] Q 0 s
abbrev whN (G : Gx) (test : PySem.Expr) (body : List Stmt) (R : Flow → Rho → Led → Prop) : Flow → Rho → Led → Prop := fun fl ρ led => match fl with
  | .next => Wh G test body ρ led R
  | .cont => Wh G test body ρ led R
  | .brk => R .next ρ led
  | .ret v => R (.ret v) ρ led
inductive Snoc (x : Value) : List Value → List Value → Prop
  | nil : Snoc x [] [x]
  | cons {v vs ws} : Snoc x vs ws → Snoc x (v :: vs) (v :: ws)
theorem Snoc.eq {x : Value} {vs ws : List Value} (h : Snoc x vs ws) : vs ++ [x] = ws := by
  induction h with
  | nil => rfl
  | cons _ ih => rw [← ih]; rfl
inductive RevA : List Value → List Value → List Value → Prop
  | nil {acc} : RevA [] acc acc
  | cons {v vs acc ws} : RevA vs (v :: acc) ws → RevA (v :: vs) acc ws
theorem RevA.eq {vs acc ws : List Value} (h : RevA vs acc ws) : vs.reverse ++ acc = ws := by
  induction h with
  | nil => rfl
  | cons _ ih => rw [← ih]; simp
theorem RevA.eq0 {vs ws : List Value} (h : RevA vs [] ws) : vs.reverse = ws := by
  have := h.eq
  simpa using this
section
variable {G : Gx} {ρ : Rho} {led : Led}
theorem Ss.while {test : PySem.Expr} {body rest : List Stmt} {pos : Pos} {R : Flow → Rho → Led → Prop} (h : Wh G test body ρ led (nxt G rest R)) : Ss G (.While test body [] pos :: rest) ρ led R :=
  .cons fun ok Φ s Q E I k x => whl_start 0 (h ok Φ s Q E I k x)
theorem Wh.turn {test : PySem.Expr} {body : List Stmt} {R : Flow → Rho → Led → Prop} (h : Te G test ρ led fun c led1 => match c with | true => Ss G body ρ led1 (whN G test body R) | false => R .next ρ led1) : Wh G test body ρ led R :=
  fun ok Φ s Q E I k x => whl_turn (k := 0) x.1.1 (h ok Φ s _ E I (fun c led1 h1 t1 I1 q => match c, q with
    | true, q => WhlIf.yes rfl (q ok Φ _ _ E I1 (fun fl ρ2 led2 h2 t2 I2 q => match fl, q with
      | .next, q => q ok Φ _ Q E I2 k x
      | .cont, q => q ok Φ _ Q E I2 k x
      | .brk, q => k .next ρ2 led2 h2 t2 I2 q
      | .ret v, q => k (.ret v) ρ2 led2 h2 t2 I2 q) x)
    | false, q => WhlIf.no rfl (wpAny_execs_nil (k .next ρ led1 h1 t1 I1 q))) x.2)
/-- a call walked inline, its facts handed on -/
theorem Ca.inlW {w : World} {f : Addr} {vs : List Value} {scope : Scope} {body : List Stmt} {binds : Rho} {R : Value → Led → Prop} (hw : G.w = w) (H : FnOk w f vs scope body binds) (hn : 1 ≤ G.k)
    (hb : ∀ G' : Gx, G'.w = w → G'.sc = scope → G.k - 1 ≤ G'.k → G'.src = G.src → G'.ex = G.ex → G'.base = G.base → Ss G' body binds led fun fl _ led' => R (retOf fl) led') : Ca G (.ref f) vs ρ led R := by
  subst hw
  exact Ca.inl H hn fun G' e1 e2 e3 e4 e5 e6 => hb G' e1 e2 (e3 ▸ Nat.le_refl _) e4 e5 e6
theorem Ca.inl1 {w : World} {f : Addr} {v : Value} {scope : Scope} {body : List Stmt} {R : Value → Led → Prop} (x : Str) (hw : G.w = w) (H : FnOk w f [v] scope body [(x, v)]) (hn : 1 ≤ G.k)
    (hb : ∀ G' : Gx, G'.w = w → G'.sc = scope → G.k - 1 ≤ G'.k → G'.src = G.src → G'.ex = G.ex → G'.base = G.base → Ss G' body [(x, v)] led fun fl _ led' => R (retOf fl) led') : Ca G (.ref f) [v] ρ led R := Ca.inlW hw H hn hb
theorem Ca.inl2 {w : World} {f : Addr} {v v2 : Value} {scope : Scope} {body : List Stmt} {R : Value → Led → Prop} (x y : Str) (hw : G.w = w) (H : FnOk w f [v, v2] scope body [(x, v), (y, v2)]) (hn : 1 ≤ G.k)
    (hb : ∀ G' : Gx, G'.w = w → G'.sc = scope → G.k - 1 ≤ G'.k → G'.src = G.src → G'.ex = G.ex → G'.base = G.base → Ss G' body [(x, v), (y, v2)] led fun fl _ led' => R (retOf fl) led') : Ca G (.ref f) [v, v2] ρ led R := Ca.inlW hw H hn hb
@[reducible] def notK (R : Bool → Led → Prop) : Bool → Led → Prop := fun c led => match c with | true => R false led | false => R true led
theorem Te.notM {e : PySem.Expr} {pos : Pos} {R : Bool → Led → Prop} (h : Te G e ρ led (notK R)) : Te G (.UnaryOp .Not e pos) ρ led R :=
  .not fun ok Φ s _ E I k x => h ok Φ s _ E I (fun c led1 h1 t1 I1 q => k c led1 h1 t1 I1 (match c, q with | true, q => q | false, q => q)) x
theorem Cm.neS {a b : Str} {t u : Tok} {c : Bool} {R : Bool → Led → Prop} (hc : (a != b) = c) (h : R c led) : Cm G .NotEq (.str a t) (.str b u) ρ led R := fun ok Φ s _ E I k x => PyProof.Rows.ne_str (k _ led s.heap s.toks I ⟨c, congrArg Value.bool hc, h⟩)
theorem Bi.subC {a b : Int} {t u : Tok} {R : Value → Led → Prop} (c : Int) (hc : a - b = c) (h : ∀ t, R (.int c t) led) : Bi G .Sub (.int a t) (.int b u) ρ led R := .subI fun t => hc ▸ h t
theorem Ca.appL {D : Addr} {vs ws : List Value} {n : Nat} {x : Value} {R : Value → Led → Prop} (m : (D, listOf vs.toArray n) ∈ led) (hs : Snoc x vs ws) (hz : Nat.ble vs.length 1000 = true) (h : ∃ led', At D (listOf vs.toArray n) (listOf ws.toArray (n + 1)) led led' ∧ R .none led') : Ca G (.builtin "list.append") [.ref D, x] ρ led R := by
  have e := hs.eq
  subst e
  exact .app m (Nat.le_of_ble_eq_true hz) h
theorem Ca.revL {D : Addr} {vs ws : List Value} {n : Nat} {R : Value → Led → Prop} (m : (D, listOf vs.toArray n) ∈ led) (hs : RevA vs [] ws) (hz : Nat.ble vs.length 1000 = true) (h : ∃ led', At D (listOf vs.toArray n) (listOf ws.toArray n) led led' ∧ R .none led') : Ca G (.builtin "list.reverse") [.ref D] ρ led R := by
  have e := hs.eq0
  subst e
  exact .rev m (Nat.le_of_ble_eq_true hz) h
end
end
section
open PySem PySem.W PyProof.Rows PySem.Calls PySem.Spec
theorem slice_any {prog : Program} {w : World} {A : Around} {E : Value → Shared → Prop} {s : Shared} {h₀ : Heap} {L l : Addr} {m : Str → Option Value} {led : Led} {vs zs : List Value} {n : Nat} {value slice : PySem.Expr} {vl vu : Value} {lo hi : Option Int} {Q : Value → Shared → Prop}
    (F : Fr h₀ L s.heap m) (N : News h₀ L s.heap led) (ml : (l, listOf vs.toArray n) ∈ led) (pl : IsPart vl lo) (pu : IsPart vu hi) (e : kms_pick vs lo hi = zs)
    (h : ∀ D h', Fr h₀ L h' m → News h₀ L h' ((D, listOf zs.toArray 0) :: led) → (∀ p ∈ led, p.1 < D) → Q (.ref D) { s with heap := h' })
    (hs : ∃ ops, subscripted slice false (.ref l) (.ref s.heap.objs.size) = operate ops (getItem (.ref l) (.ref s.heap.objs.size))) (hz : vs.length ≤ 1000) :
    wpAny (model prog w) A (subscriptTail value slice (.ref l) (.ref s.heap.objs.size)) Q E { s with heap := s.heap.push { cls := .type "slice", data := .fields #[vl, vu, .none] } } := by
  have hl := N.isList ml
  obtain ⟨ops, hs⟩ := hs
  refine tail_any (Heap.IsList.typeIs (s := { s with heap := s.heap.push { cls := .type "slice", data := .fields #[vl, vu, .none] } }) (hl.push _)) slot_list_getitem.lookup
    (wpAny_getItem_list_slice (hl.push _) (Heap.IsSliceOf.new ..) pl pu .none (by simp) ?_ (by rw [sizeLine_eq]; simp; omega)) hs
  have N1 := News.push (F.push { cls := .type "slice", data := .fields #[vl, vu, .none] }) (N.grown fun _ _ e => Heap.get?_push_of_some _ e) { cls := .type "list", data := .seq (slicePick vs.toArray lo hi none) }
  rw [Heap.size_push] at N1
  show Q (.ref (s.heap.push _).objs.size) _
  rw [Heap.size_push]
  refine h _ _ ((F.push _).push _) ?_ fun p hp => Nat.lt_succ_of_lt (Heap.lt_size (N p hp).1)
  rw [← e, ← kms_pick_eq]
  exact N1
section
variable {G : Gx} {ρ : Rho} {led : Led}
/-- v[::-1] -/
theorem Ex.slRev {v st : PySem.Expr} {p pos : Pos} {R : Value → Led → Prop} (hs : ∀ l r, ∃ ops, subscripted (.Slice Option.none Option.none (some st) p) false (.ref l) (.ref r) = operate ops (getItem (.ref l) (.ref r))) (ht : ∀ l r, letTemporaryGo v (.ref l) r = pure ())
    (h : Ex G v ρ led fun o led1 => ∃ l vs ws n, o = .ref l ∧ (l, listOf vs.toArray n) ∈ led1 ∧ RevA vs [] ws ∧ Nat.ble vs.length 1000 = true ∧ Ex G st ρ led1 fun k led2 => ∃ t, led2 = led1 ∧ k = .int (-1) t ∧ ∀ D, R (.ref D) ((D, listOf ws.toArray 0) :: led1)) : Ex G (.Subscript v (.Slice Option.none Option.none (some st) p) pos) ρ led R :=
  fun ok Φ s Q E I k x => Subscript_ (h ok Φ s _ E I (fun o led1 h1 t1 I1 q => by
    obtain ⟨l, vs, ws, n, rfl, m, hr, hz, q⟩ := q
    refine wpAny_Slice ?_
    rw [evalPart_none, evalPart_some]
    refine wpAny_pure (wpAny_pure (q ok Φ _ _ E I1 (fun k2 led2 h2 t2 I2 q => ?_) x))
    obtain ⟨t, rfl, rfl, q⟩ := q
    obtain ⟨mm, F, hm⟩ := I2.F
    obtain ⟨sl, hsl, N, Dd⟩ := I2.N
    obtain ⟨ops, e⟩ := hs l h2.objs.size
    refine krv_lit (s := { s with heap := h2, toks := t2 }) (its := vs.toArray) F N (N.isList (List.mem_append_left _ m)) (.int _ _) (by simpa using hr.eq0) (fun D h' F' N' l => k _ ((D, listOf ws.toArray 0) :: led2) h' t2 ⟨⟨mm, F', hm⟩, sl, hsl, N', nodup_cons l Dd⟩ (q D)) e (ht l) ?_
    have := Nat.le_of_ble_eq_true hz
    rw [sizeLine_eq]; simp; omega) x)
/-- v[:e] -/
theorem Ex.slHi {v u : PySem.Expr} {p pos : Pos} {R : Value → Led → Prop} (hs : ∀ l r, ∃ ops, subscripted (.Slice Option.none (some u) Option.none p) false (.ref l) (.ref r) = operate ops (getItem (.ref l) (.ref r)))
    (h : Ex G v ρ led fun o led1 => ∃ l vs n, o = .ref l ∧ (l, listOf vs.toArray n) ∈ led1 ∧ vs.length ≤ 1000 ∧ Ex G u ρ led1 fun k led2 => ∃ i t ws, led2 = led1 ∧ k = .int i t ∧ kms_pick vs Option.none (some i) = ws ∧ ∀ D, R (.ref D) ((D, listOf ws.toArray 0) :: led1)) : Ex G (.Subscript v (.Slice Option.none (some u) Option.none p) pos) ρ led R :=
  fun ok Φ s Q E I k x => Subscript_ (h ok Φ s _ E I (fun o led1 h1 t1 I1 q => by
    obtain ⟨l, vs, n, rfl, m, hz, q⟩ := q
    refine wpAny_Slice ?_
    rw [evalPart_none, evalPart_some]
    refine wpAny_pure (q ok Φ _ _ E I1 (fun k2 led2 h2 t2 I2 q => ?_) x)
    obtain ⟨i, t, ws, rfl, rfl, e, q⟩ := q
    obtain ⟨mm, F, hm⟩ := I2.F
    obtain ⟨sl, hsl, N, Dd⟩ := I2.N
    exact wpAny_pure (slice_any (s := { s with heap := h2, toks := t2 }) F N (List.mem_append_left _ m) .none (.int _ _) e (fun D h' F' N' l => k _ ((D, listOf ws.toArray 0) :: led2) h' t2 ⟨⟨mm, F', hm⟩, sl, hsl, N', nodup_cons l Dd⟩ (q D)) (hs l _) hz)) x)
/-- v[e:] -/
theorem Ex.slLo {v u : PySem.Expr} {p pos : Pos} {R : Value → Led → Prop} (hs : ∀ l r, ∃ ops, subscripted (.Slice (some u) Option.none Option.none p) false (.ref l) (.ref r) = operate ops (getItem (.ref l) (.ref r)))
    (h : Ex G v ρ led fun o led1 => ∃ l vs n, o = .ref l ∧ (l, listOf vs.toArray n) ∈ led1 ∧ vs.length ≤ 1000 ∧ Ex G u ρ led1 fun k led2 => ∃ i t ws, led2 = led1 ∧ k = .int i t ∧ kms_pick vs (some i) Option.none = ws ∧ ∀ D, R (.ref D) ((D, listOf ws.toArray 0) :: led1)) : Ex G (.Subscript v (.Slice (some u) Option.none Option.none p) pos) ρ led R :=
  fun ok Φ s Q E I k x => Subscript_ (h ok Φ s _ E I (fun o led1 h1 t1 I1 q => by
    obtain ⟨l, vs, n, rfl, m, hz, q⟩ := q
    refine wpAny_Slice ?_
    rw [evalPart_none, evalPart_some]
    refine q ok Φ _ _ E I1 (fun k2 led2 h2 t2 I2 q => ?_) x
    obtain ⟨i, t, ws, rfl, rfl, e, q⟩ := q
    obtain ⟨mm, F, hm⟩ := I2.F
    obtain ⟨sl, hsl, N, Dd⟩ := I2.N
    exact wpAny_pure (wpAny_pure (slice_any (s := { s with heap := h2, toks := t2 }) F N (List.mem_append_left _ m) (.int _ _) .none e (fun D h' F' N' l => k _ ((D, listOf ws.toArray 0) :: led2) h' t2 ⟨⟨mm, F', hm⟩, sl, hsl, N', nodup_cons l Dd⟩ (q D)) (hs l _) hz))) x)
end
end
section
open PySem PySem.W PyProof.Rows PySem.Calls PySem.Spec
section
variable {G : Gx} {ρ : Rho} {led : Led}
theorem Ex.attrA {e : PySem.Expr} {x : Str} {pos : Pos} {R : Value → Led → Prop} (he : ∀ env, eval (.Attribute e x pos) env = (do let o ← eval e env; standAt pos.atName; let r ← holding [o] (getAttr o x true); letTemporaryGo e o r; pure r))
    (h : Ex G e ρ led (gaK G x ρ R)) : Ex G (.Attribute e x pos) ρ led R :=
  fun ok Φ s _ E I k y => Attribute_any_ (h ok Φ s _ E I (fun a led1 h1 t1 I1 q => q true ok Φ _ _ E I1 k y) y) (he _)
/-- a test of a name that is bound to a truth -/
theorem Te.loc {sc : Scope} {x : Str} {pos : Pos} {b : Bool} {R : Bool → Led → Prop} (hs : G.sc = sc) (hv : (x, Value.bool b) ∈ ρ) (hk : sc.names.lookup x = some .local) (hd : (x == ("__debug__" : Str)) = false) (ht : ∀ env whole, isTrue (.Name x pos) env whole = (do let v ← whole; standAt (PySem.Expr.Name x pos).pos; holding [v] (truthy v))) (h : R b led) : Te G (.Name x pos) ρ led R :=
  .plain ht (.loc hs hv hk hd ⟨b, rfl, h⟩)
end
end
section
open PySem PySem.W PyProof.Rows PySem.Calls PySem.Spec
theorem Ca.part {G : Gx} {ρ : Rho} {led led' : Led} {w : World} {l : Addr} {vs : List Value} {n : Nat} {p : PE} {R : Value → Led → Prop} (hw : G.w = w) (hn : 5 ≤ G.k) (C : PartC w) (ml : (l, listOf vs.toArray n) ∈ led) (P : SideIn led' vs p) (sub : ∀ q ∈ led', q ∈ led)
    (h : ∀ b tl, (∀ q ∈ tl ++ (l, listOf vs.toArray n) :: led', q ∈ tl ++ led) → PIn (tl ++ (l, listOf vs.toArray n) :: led') b p → R (.ref b) (tl ++ led)) : Ca G (.ref 833) [.ref l, .none] ρ led R :=
  .rd hw hn (PartC.use C P) (List.forall_mem_cons.mpr ⟨ml, sub⟩) fun v tl sb o => match v, o with | _, .mk o => h _ tl sb o
end
section
open PySem PySem.W PyProof.Rows PySem.Calls PySem.Spec
theorem nodup_ne {e : Addr} {o : Obj} {pre post : Led} (D : ((pre ++ (e, o) :: post).map (·.1)).Nodup) : (∀ p ∈ pre, p.1 ≠ e) ∧ ∀ p ∈ post, p.1 ≠ e := by
  rw [List.map_append, List.map_cons] at D
  obtain ⟨_, d2, d3⟩ := List.nodup_append.mp D
  refine ⟨fun p hp c => d3 _ (List.mem_map_of_mem (f := (·.1)) hp) _ (.head _) c, fun p hp c => ?_⟩
  exact (List.nodup_cons.mp d2).1 (c ▸ List.mem_map_of_mem (f := (·.1)) hp)
section
variable {G : Gx} {ρ : Rho} {led : Led}
/-- raise x -/
theorem Ss.raise {x : PySem.Expr} {pos : Pos} {rest : List Stmt} {all0 : Led} {R : Flow → Rho → Led → Prop} (hS : G.src = none) (hx : G.ex = some all0) (hM : excMk (KF G.w.params) 45)
    (h : Ex G x ρ led fun v led1 => ∃ e a0 dx sl od pre post, v = .ref e ∧ led1 = pre ++ (e, excO 45 (some dx) a0 sl) :: post ∧ (dx, od) ∈ led1 ∧ MsgDict od ∧ ∀ q ∈ all0, q ∈ post) : Ss G (.Raise (some x) none pos :: rest) ρ led R :=
  .cons fun ok Φ s Q E I k z => Raise_made (K := KF G.w.params) (C := 45) rfl (h ok Φ s _ E I (fun v led1 h1 t1 I1 q => by
    obtain ⟨e, a0, dx, sl, od, pre, post, rfl, rfl, md, hmsg, hsub⟩ := q
    obtain ⟨m, F, _⟩ := I1.F
    obtain ⟨sl1, hsl, N, D⟩ := I1.N
    rw [hS] at hsl
    cases hsl
    have D' : ((pre ++ (e, excO 45 (some dx) a0 sl) :: (post ++ Φ)).map (·.1)).Nodup := by simpa [List.append_assoc] using D
    have me : (e, excO 45 (some dx) a0 sl) ∈ (pre ++ (e, excO 45 (some dx) a0 sl) :: post) ++ ([] ++ Φ) := by simp
    refine ⟨e, a0, _, _, rfl, hM, ok.K.keeps F.keep, (N _ me).1, ((z.2 all0 hx).2 e dx a0 sl od m _ h1 t1 F N me (List.mem_append_left _ md) hmsg fun q hq => ?_)⟩
    have hq' : q ∈ post ++ Φ := (List.mem_append.mp hq).elim (fun h => List.mem_append_left _ (hsub q h)) fun h => List.mem_append_right _ h
    refine ⟨?_, (nodup_ne D').2 q hq'⟩
    rcases List.mem_append.mp hq' with h | h
    · exact List.mem_append_left _ (List.mem_append_right _ (.tail _ h))
    · exact List.mem_append_right _ h) z.2)
theorem Cw.b0 {id : String} {e : PySem.Expr} {es : List PySem.Expr} {R : Value → Led → Prop} (hp : plainEs (e :: es) = true) (h : Exs G (e :: es) ρ led (caK G (.builtin id) ρ R)) : Cw G (.builtin id) [] (e :: es) ρ led R := .bi hp h
theorem Gm.typ {T : String} {x : Str} {v : Value} {R : Value → List Value → Led → Prop} (ht : typeOf (.type T) = pure (.type "type")) (hs : Manifest.isStub T = false) (e : findCls (KF G.w.params) (.type T) (.type "type") x = some (.val v)) (hh : handedIn v = true) (h : R v [] led) : Gm G (.type T) x ρ led R :=
  fun pl ok Φ s _ E I k y => have ⟨_, F, _⟩ := I.F
    method_type F ok.K ht hs e hh (k (_, _) led s.heap _ I h)
theorem Ca.excInit {e t0 : Addr} {v : Value} {r : Led} {sl : Array (Option Value)} {R : Value → Led → Prop} (hm : excMk (KF G.w.params) 45) (h : ∀ t2, R .none ((t2, tupO [v]) :: (e, excO 45 none (.ref t2) sl) :: r)) : Ca G (.builtin "Exception.__init__") [.ref e, v] ρ ((e, excO 45 none (.ref t0) sl) :: r) R :=
  fun ok Φ s Q E I k y => by
    obtain ⟨m, F, hmm⟩ := I.F
    obtain ⟨sl1, hsl, N, D⟩ := I.N
    refine exc_init F ok.K N hm (.head (nodup_ne (pre := []) D).2) fun t2 h' F' N' l => ?_
    refine k _ _ h' s.toks ⟨⟨m, F', hmm⟩, sl1, hsl, N', ?_⟩ (h t2)
    refine nodup_cons (fun p hp => ?_) (by simpa using D)
    rcases List.mem_cons.mp hp with rfl | hp
    · exact l (e, excO 45 none (.ref t0) sl) (.head _)
    · exact l p (.tail _ hp)
theorem Sa.exc1 {x1 e : Addr} {ox : Obj} {a0 : Value} {sl : Array (Option Value)} {r : Led} {x : Str} {v : Value} {R : Led → Prop} (q : excSt (KF G.w.params) 45) (hs : findIn (KF G.w.params) (.ref 45) "__setattr__" = some (some (.builtin "object.__setattr__"))) (ht : takerIn (KF G.w.params) 45 x = some none)
    (h : ∀ d t, R ((d, dictOf [⟨PyData.keyHash G.w.params x, .str x t, v⟩] 1) :: (x1, ox) :: (e, excO 45 (some d) a0 sl) :: r)) : Sa G (.ref e) x v ρ ((x1, ox) :: (e, excO 45 none a0 sl) :: r) R :=
  fun ok Φ s Q E I k y => by
    obtain ⟨m, F, hmm⟩ := I.F
    obtain ⟨sl1, hsl, N, D⟩ := I.N
    have nd := nodup_ne (pre := [(x1, ox)]) D
    refine exc_set1 F ok.K N q hs ht (.tail (nd.1 _ (.head _)) (.head nd.2)) fun d h' F' N' l => ?_
    refine k () _ h' _ ⟨⟨m, F', hmm⟩, sl1, hsl, N', ?_⟩ (h d _)
    refine nodup_cons (fun p hp => ?_) (by simpa using D)
    rcases List.mem_cons.mp hp with rfl | hp
    · exact l _ (.head _)
    · rcases List.mem_cons.mp hp with rfl | hp
      · exact l (e, excO 45 none a0 sl) (.tail _ (.head _))
      · exact l p (.tail _ (.tail _ hp))
theorem Sa.exc2 {d x1 e : Addr} {ox : Obj} {a0 : Value} {sl : Array (Option Value)} {r : Led} {e1 : DictEntry} {x : Str} {v : Value} {R : Led → Prop} (q : excSt (KF G.w.params) 45) (hs : findIn (KF G.w.params) (.ref 45) "__setattr__" = some (some (.builtin "object.__setattr__"))) (ht : takerIn (KF G.w.params) 45 x = some none)
    (hl : (getL x [e1]).isSome = true) (hx : (([e1] : List DictEntry).any (·.key.isStr x)) = false)
    (h : ∀ t, R ((d, dictOf [e1, ⟨PyData.keyHash G.w.params x, .str x t, v⟩] 2) :: (x1, ox) :: (e, excO 45 (some d) a0 sl) :: r)) : Sa G (.ref e) x v ρ ((d, dictOf [e1] 1) :: (x1, ox) :: (e, excO 45 (some d) a0 sl) :: r) R :=
  fun ok Φ s Q E I k y => by
    obtain ⟨m, F, hmm⟩ := I.F
    obtain ⟨sl1, hsl, N, D⟩ := I.N
    have nd := nodup_ne (pre := []) D
    refine exc_set2 F ok.K N q hs ht (.tail _ (.tail _ (.head _))) (.head _) hl (es' := [e1, ⟨PyData.keyHash G.w.params x, .str x (s.toks + 1), v⟩]) (n' := 2) ?_ (.head nd.2) (by simp) fun h' F' N' => k () _ h' _ ⟨⟨m, F', hmm⟩, sl1, hsl, N', by simpa using D⟩ (h _)
    rw [putL_new hx]; unfold putN; rw [if_neg (by rw [hx]; exact Bool.false_ne_true)]; rfl
/-- the exception's class called -/
theorem Ca.exc {fI : Addr} {vs : List Value} {R : Value → Led → Prop} {scope : Scope} {body : List Stmt} {binds : Addr → Rho} (hm : excMk (KF G.w.params) 45) (hi : findIn (KF G.w.params) (.ref 45) "__init__" = some (some (.ref fI))) (hf : isFn (KF G.w.params) (.ref fI) = true) (hz : vs.length ≤ 1000)
    (H : ∀ x, FnOk G.w fI (.ref x :: vs) scope body (binds x)) (hn : 2 ≤ G.k)
    (hb : ∀ (G' : Gx) (x t : Addr), G'.w = G.w → G'.sc = scope → G'.k = G.k - 2 → G'.src = G.src → G'.ex = G.ex → G'.base = G.base → Ss G' body (binds x) ((x, excO 45 none (.ref t) #[]) :: (t, tupO vs) :: led) fun fl _ led' => retOf fl = .none ∧ R (.ref x) led') : Ca G (.ref 45) vs ρ led R :=
  fun ok Φ s Q E I k y => by
    obtain ⟨m, F, hm'⟩ := I.F
    obtain ⟨sl, hsl, N, D⟩ := I.N
    refine exc_make_K F ok.K N hm hi hf hz fun x t h' F' N' l1 l2 l3 => ?_
    refine (H x).code (k := G.k - 2) (Rb := fun v led' => v = .none ∧ R (.ref x) led') (E := E) ok (Φ := Φ) (ρ := ρ) (led := (x, excO 45 none (.ref t) #[]) :: (t, tupO vs) :: led) ⟨⟨m, F', hm'⟩, sl, hsl, N', nodup_cons (fun p hp => ?_) (nodup_cons l1 D)⟩ y rfl rfl ?_ ?_ (fun G' e1 e2 e3 e4 e5 e6 => hb G' x t e1 e2 e3 e4 e5 e6) (fun v led' h' tk' I' r => ⟨r.1, k _ led' h' tk' I' r.2⟩) (fun e s' h => h)
    · rcases List.mem_cons.mp hp with rfl | hp
      · exact l2
      · exact l3 p hp
    · have := ok.d
      show G.dp + 1 + 1 + (G.k - 2) < 1000
      omega
    · have := ok.u
      show G.un + 1 + 3 + 8 * (G.k - 2) < 9900
      omega
end
end
section
open PySem PySem.W PyProof.Rows PySem.Calls PySem.Spec
section
variable {G : Gx} {ρ : Rho} {led : Led}
theorem Sb.strAt {value slice : PySem.Expr} {x : Str} {t u : Tok} {i : Int} {c : Nat} {R : Value → Led → Prop} (hr : (decide (i < -(2 ^ 63 : Int)) || decide (i ≥ 2 ^ 63)) = false) (hc : (seqIndex? i x.length).bind (x.cps[·]?) = some c)
    (hs : ∃ ops, subscripted slice false (.str x t) (.int i u) = operate ops (getItem (.str x t) (.int i u))) (h : ∀ t, R (.str ⟨#[c]⟩ t) led) : Sb G value slice (.str x t) (.int i u) ρ led R :=
  fun ok Φ s _ E I k y => have ⟨_, e⟩ := hs
    tail_any (typeIs_str _ _ _) F.slot_str_getitem.lookup (PyProof.Rows.getItem_str hr hc (k _ led s.heap _ I (h _))) e
theorem Cm.notInS {x y : Str} {t u : Tok} {c : Bool} {R : Bool → Led → Prop} (hc : (!(!(Builtin.Str.occurrences x y 0 x.length 1).isEmpty)) = c) (h : R c led) : Cm G .NotIn (.str y u) (.str x t) ρ led R :=
  fun ok Φ s _ E I k z => P.notIn_str (k _ led s.heap s.toks I ⟨c, congrArg Value.bool hc, h⟩)
theorem Cm.leS {x y : Str} {t u : Tok} {c : Bool} {R : Bool → Led → Prop} (hc : (!(decide (y.cps.toList < x.cps.toList))) = c) (h : R c led) : Cm G .LtE (.str x t) (.str y u) ρ led R :=
  fun ok Φ s _ E I k z => PySem.P.le_str (k _ led s.heap s.toks I ⟨c, congrArg Value.bool hc, h⟩)
@[reducible] def bvK (R : Value → Led → Prop) : Bool → Led → Prop := fun c led => R (.bool c) led
theorem Ex.cmp {l r : PySem.Expr} {op : CmpOp} {pos : Pos} {R : Value → Led → Prop} (hm : behindInMarks op r = false) (h : Ex G l ρ led (cmpK G r op ρ (bvK R))) : Ex G (.Compare l [op] [r] pos) ρ led R :=
  fun ok Φ s _ E I k x => wpAny_Compare1 (h ok Φ s _ E I (fun a led1 h1 t1 I1 q => q ok Φ _ _ E I1 (fun b led2 h2 t2 I2 q => q ok Φ _ _ E I2 (fun c led3 h3 t3 I3 ⟨b, e, q⟩ => by subst e; exact k _ _ _ _ I3 q) x) x) x) hm
theorem Ex.chain2 {l r1 r2 : PySem.Expr} {op1 op2 : CmpOp} {pos : Pos} {R : Value → Led → Prop} (hm : lastMarks [op1, op2] [r1, r2] = false)
    (h : Ex G l ρ led fun a led1 => Ex G r1 ρ led1 fun b led2 => Cm G op1 a b ρ led2 fun c led3 => match c with | true => Ex G r2 ρ led3 (fun d led4 => Cm G op2 b d ρ led4 fun c2 led5 => R (.bool c2) led5) | false => R (.bool false) led3) : Ex G (.Compare l [op1, op2] [r1, r2] pos) ρ led R :=
  fun ok Φ s _ E I k x => Compare_chain (h ok Φ s _ E I (fun a led1 h1 t1 I1 q => chain_link (q ok Φ _ _ E I1 (fun b led2 h2 t2 I2 q => q ok Φ _ _ E I2 (fun c led3 h3 t3 I3 ⟨b, e, q⟩ => by
    subst e
    refine wpAny_truthy_bool ?_
    cases b with
    | true => exact (if_pos rfl).mpr (chain_last (q ok Φ _ _ E I3 (fun d led4 h4 t4 I4 q => q ok Φ _ _ E I4 (fun c5 led5 h5 t5 I5 ⟨b5, e, q⟩ => by subst e; exact k _ _ _ _ I5 q) x) x))
    | false => exact (if_neg Bool.false_ne_true).mpr (k _ _ _ _ I3 q)) x) x)) x) hm
theorem Ex.and2 {e1 e2 : PySem.Expr} {pos : Pos} {R : Value → Led → Prop} (h : Ex G e1 ρ led fun v led1 => ∃ c, v = .bool c ∧ match c with | true => Ex G e2 ρ led1 R | false => R (.bool false) led1) : Ex G (.BoolOp .And [e1, e2] pos) ρ led R :=
  fun ok Φ s _ E I k x => BoolOp_and (h ok Φ s _ E I (fun v led1 h1 t1 I1 ⟨c, e, q⟩ => by
    subst e
    refine wpAny_truthy_bool ?_
    cases c with
    | true => exact (if_pos rfl).mpr (BoolOp_one (q ok Φ _ _ E I1 k x))
    | false => exact (if_neg Bool.false_ne_true).mpr (k _ _ _ _ I1 q)) x)
theorem Ex.or2 {e1 e2 : PySem.Expr} {pos : Pos} {R : Value → Led → Prop} (h : Ex G e1 ρ led fun v led1 => ∃ c, v = .bool c ∧ match c with | true => R (.bool true) led1 | false => Ex G e2 ρ led1 R) : Ex G (.BoolOp .Or [e1, e2] pos) ρ led R :=
  fun ok Φ s _ E I k x => BoolOp_or (h ok Φ s _ E I (fun v led1 h1 t1 I1 ⟨c, e, q⟩ => by
    subst e
    refine wpAny_truthy_bool ?_
    cases c with
    | true => exact (if_pos rfl).mpr (k _ _ _ _ I1 q)
    | false => exact (if_neg Bool.false_ne_true).mpr (BoolOp_one (q ok Φ _ _ E I1 k x))) x)
theorem Gm.alpha {x : Str} {t : Tok} {R : Value → List Value → Led → Prop} (h : R (.builtin "str.isalpha") [.str x t] led) : Gm G (.str x t) "isalpha" ρ led R :=
  fun pl ok Φ s _ E I k y => GM.isalpha (k (_, _) led s.heap s.toks I h)
theorem Ca.alpha {x : Str} {t : Tok} {R : Value → Led → Prop} (c : Bool) (hc : Txt.isalpha x = c) (h : R (.bool c) led) : Ca G (.builtin "str.isalpha") [.str x t] ρ led R :=
  fun ok Φ s _ E I k y => SC.isalpha (by rw [hc]; exact k _ led s.heap s.toks I h)
theorem Bi.addS {x y : Str} {t u : Tok} {R : Value → Led → Prop} (hz : Nat.ble (x.length + y.length) 1000 = true) (h : ∀ t, R (.str (x ++ y) t) led) : Bi G .Add (.str x t) (.str y u) ρ led R :=
  fun ok Φ s _ E I k z => PyProof.Rows.add_str (fun t' tk => k _ led s.heap tk I (h t')) (by rw [sizeLine_eq]; have := Nat.le_of_ble_eq_true hz; omega)
end
end
section
open PySem PySem.W PyProof.Rows PySem.Calls PySem.Spec
theorem SrcL.get {S : Addr} {sl led Φ : Led} (h : SrcL (Option.some S) sl) : ∃ x tx y ty kk, 0 ≤ x ∧ 0 ≤ y ∧ y < 2147483647 ∧ (S, src x tx y ty kk) ∈ led ++ (sl ++ Φ) := by
  cases h with
  | some a b c => exact ⟨_, _, _, _, _, a, b, c, List.mem_append_right _ (.head _)⟩
section
variable {G : Gx} {ρ : Rho} {led : Led}
/-- source[0] -/
theorem Sb.s0 {S : Addr} {value slice : PySem.Expr} {u : Tok} {R : Value → Led → Prop} (hS : G.src = some S) (hs : ∃ ops, subscripted slice false (.ref S) (.int 0 u) = operate ops (getItem (.ref S) (.int 0 u))) (h : ∀ x t, 0 ≤ x → R (.int x t) led) : Sb G value slice (.ref S) (.int 0 u) ρ led R :=
  fun ok Φ s _ E I k y => by
    obtain ⟨sl, hsl, N, _⟩ := id I.N
    obtain ⟨ops, e⟩ := hs
    rw [hS] at hsl
    obtain ⟨x, tx, yy, ty, kk, h0, h1, h2, mS⟩ := hsl.get (led := led) (Φ := Φ)
    have hl := N.isList mS
    exact tail_any hl.typeIs slot_list_getitem.lookup (wpAny_getItem_list hl (by decide) (by decide) rfl (k _ led s.heap s.toks I (h _ _ h0))) e
/-- source[1] -/
theorem Sb.s1 {S : Addr} {value slice : PySem.Expr} {u : Tok} {R : Value → Led → Prop} (hS : G.src = some S) (hs : ∃ ops, subscripted slice false (.ref S) (.int 1 u) = operate ops (getItem (.ref S) (.int 1 u))) (h : ∀ x t, 0 ≤ x → x < 2147483647 → R (.int x t) led) : Sb G value slice (.ref S) (.int 1 u) ρ led R :=
  fun ok Φ s _ E I k y => by
    obtain ⟨sl, hsl, N, _⟩ := id I.N
    obtain ⟨ops, e⟩ := hs
    rw [hS] at hsl
    obtain ⟨x, tx, yy, ty, kk, h0, h1, h2, mS⟩ := hsl.get (led := led) (Φ := Φ)
    have hl := N.isList mS
    exact tail_any hl.typeIs slot_list_getitem.lookup (wpAny_getItem_list hl (by decide) (by decide) rfl (k _ led s.heap s.toks I (h _ _ h1 h2))) e
theorem Bi.fdivI {a b : Int} {t u : Tok} {R : Value → Led → Prop} (hb : b ≠ 0) (hs : 0 < b ∧ b < 1073741824) (h : ∀ t, R (.int (a.fdiv b) t) led) : Bi G .FloorDiv (.int a t) (.int b u) ρ led R :=
  fun ok Φ s _ E I k y => floordiv_int hb (k _ led s.heap _ I (h _)) (Or.inl (PyProof.noPylong_small (by omega)))
theorem Bi.mulI {a b : Int} {t u : Tok} {R : Value → Led → Prop} (h0 : 0 ≤ b) (h1 : b < 2147483647) (h : ∀ t, R (.int (a * b) t) led) : Bi G .Mult (.int a t) (.int b u) ρ led R :=
  fun ok Φ s _ E I k y => PyProof.Rows.mul_int (k _ led s.heap _ I (h _)) (mul_ok h0 h1)
theorem upd_of {e : Addr} {o o' : Obj} : ∀ {pre post : Led}, ((pre ++ (e, o) :: post).map (·.1)).Nodup → Upd e o o' (pre ++ (e, o) :: post) (pre ++ (e, o') :: post)
  | [], post, D => .head (nodup_ne (pre := []) D).2
  | p :: pre, post, D => .tail ((nodup_ne D).1 p (.head _)) (upd_of (List.nodup_cons.mp D).2)
/-- source[0] = e, source[1] = e -/
theorem Ss.setS {S : Addr} {o i value : PySem.Expr} {pos' pos : Pos} {rest : List Stmt} {R : Flow → Rho → Led → Prop} (hw : ∀ env, swapsWith value (Option.some (.Subscript o i pos')) pos.line env = pure false) (hS : G.src = Option.some S)
    (h : Ex G value ρ led fun v led1 => Ex G o ρ led1 fun ov led2 => Ex G i ρ led2 fun iv led3 => ov = .ref S ∧ ((∃ t x tx, iv = .int 0 t ∧ v = .int x tx ∧ 0 ≤ x) ∨ (∃ t y ty, iv = .int 1 t ∧ v = .int y ty ∧ 0 ≤ y ∧ y < 2147483647)) ∧ Ss G rest ρ led3 R) :
    Ss G (.Assign [.Subscript o i pos'] value pos :: rest) ρ led R :=
  .cons fun ok Φ s Q E I k z => wpAny_Assign_Subscript (h ok Φ s _ E I (fun v led1 h1 t1 I1 q => q ok Φ _ _ E I1 (fun ov led2 h2 t2 I2 q => q ok Φ _ _ E I2 (fun iv led3 h3 t3 I3 q => by
    obtain ⟨rfl, c, q9⟩ := q
    obtain ⟨m, F, hm⟩ := I3.F
    obtain ⟨sl, hsl, N, D⟩ := I3.N
    rw [hS] at hsl
    cases hsl with
    | some a0 a1 a2 =>
      rename_i x0 y0 tx0 ty0 k0
      rcases c with ⟨t, x, tx, rfl, rfl, hx⟩ | ⟨t, y, ty, rfl, rfl, hy0, hy1⟩
      · exact ki_set F N (by decide) (by decide) rfl (upd_of D) fun h' F' N' => k .next ρ led3 h' t3 ⟨⟨m, F', hm⟩, [(S, src x tx y0 ty0 k0)], by rw [hS]; exact .some hx a1 a2, N', by simpa using D⟩ q9
      · exact ki_set F N (by decide) (by decide) rfl (upd_of D) fun h' F' N' => k .next ρ led3 h' t3 ⟨⟨m, F', hm⟩, [(S, src x0 tx0 y ty k0)], by rw [hS]; exact .some a0 hy0 hy1, N', by simpa using D⟩ q9) z.2) z.2) z.2) (hw _)
theorem Cm.gtA {a b : Int} {t u : Tok} {R : Bool → Led → Prop} (h : ∀ c, decide (b < a) = c → R c led) : Cm G .Gt (.int a t) (.int b u) ρ led R := .gtI rfl (h _ rfl)
theorem fdiv_nn {a b : Int} (h : 0 ≤ a) (hb : 0 < b) : 0 ≤ a.fdiv b := Int.fdiv_nonneg h (Int.le_of_lt hb)
end
end
section
open PySem PySem.W PyProof.Rows PySem.Calls PySem.Spec
/-- a list of the base is one of every later heap -/
theorem Gx.Ok.list {G : Gx} (ok : G.Ok) {Φ led : Led} {ρ : Rho} {h : Heap} {l : Addr} {its : Array Value} (I : Inv G Φ ρ led h) (x : G.base.IsList l its) : h.IsList l its := by
  obtain ⟨A₀, B⟩ := ok.B
  obtain ⟨m, F, _⟩ := I.F
  obtain ⟨o, e, r⟩ := x
  exact ⟨o, F.keep _ _ (B.stays _ _ e), r⟩
section
variable {G : Gx} {ρ : Rho} {led : Led}
theorem Ca.lenB {l : Addr} {vs : List Value} {R : Value → Led → Prop} (hl : G.base.IsList l vs.toArray) (hz : vs.length ≤ 63) (h : ∀ t, R (.int (vs.length : Int) t) led) : Ca G (.builtin "len") [.ref l] ρ led R :=
  fun ok Φ s _ E I k y => kun_lenL (ok.list I hl) (by simp) (by omega) (k _ led s.heap _ I (h _))
theorem Sb.itemB {value slice : PySem.Expr} {l : Addr} {v : Value} {vs : List Value} {u : Tok} {R : Value → Led → Prop} (hl : G.base.IsList l (v :: vs).toArray) (hs : ∃ ops, subscripted slice false (.ref l) (.int 0 u) = operate ops (getItem (.ref l) (.int 0 u))) (h : R v led) : Sb G value slice (.ref l) (.int 0 u) ρ led R :=
  fun ok Φ s _ E I k y => by
    obtain ⟨ops, e⟩ := hs
    have hl := ok.list I hl
    exact tail_any hl.typeIs slot_list_getitem.lookup (wpAny_getItem_list hl (by decide) (by decide) (by simp) (k v led s.heap s.toks I h)) e
theorem Ca.max2 {a b : Int} {t u : Tok} {R : Value → Led → Prop} (h : ∀ t, R (.int (if b > a then b else a) t) led) : Ca G (.builtin "max") [.int a t, .int b u] ρ led R :=
  fun ok Φ s _ E I k y => by
    obtain ⟨m, F, hm⟩ := I.F
    obtain ⟨sl, hsl, N, D⟩ := I.N
    exact max_two_N rfl F N fun h' tk' F' N' => k _ led h' tk' ⟨⟨m, F', hm⟩, sl, hsl, N', D⟩ (h _)
theorem Bi.pow18 {t u : Tok} {R : Value → Led → Prop} (h : ∀ t, R (.int (10 ^ 18) t) led) : Bi G .Pow (.int 10 t) (.int 18 u) ρ led R :=
  fun ok Φ s _ E I k y => pow_int_small (by decide) (by decide) (by decide) (k _ led s.heap _ I (h _))
end
end
section
open PySem PySem.W PyProof.Rows PySem.Calls PySem.Spec
section
variable {G : Gx} {ρ : Rho} {led : Led}
theorem Ca.intB {c : Bool} {R : Value → Led → Prop} (h : ∀ t, R (.int (if c then 1 else 0) t) led) : Ca G (.type "int") [.bool c] ρ led R :=
  fun ok Φ s _ E I k y => call_int_bool (k _ led s.heap _ I (h _))
theorem Ca.maxP {a b : Int} {t u : Tok} {R : Value → Led → Prop} (hb : b = -1 - a) (h : ∀ m t, 0 ≤ m → R (.int m t) led) : Ca G (.builtin "max") [.int a t, .int b u] ρ led R :=
  .max2 fun t => h _ t (by subst hb; split <;> omega)
theorem Cm.geA {a b : Int} {t u : Tok} {R : Bool → Led → Prop} (h : ∀ c, R c led) : Cm G .GtE (.int a t) (.int b u) ρ led R :=
  fun ok Φ s _ E I k y => PyProof.Rows.ge_int (k _ led s.heap s.toks I ⟨_, rfl, h _⟩)
theorem Bi.mulB {a : Int} {c : Bool} {t u : Tok} {R : Value → Led → Prop} (ha : 0 ≤ a) (h : ∀ m t, 0 ≤ m → R (.int m t) led) : Bi G .Mult (.int a t) (.int (if c then 1 else 0) u) ρ led R := by
  cases c
  · exact .mulI (by decide) (by decide) fun t => h _ t (by simp)
  · exact .mulI (by decide) (by decide) fun t => h _ t (by simpa using ha)
def PoolC (w : World) : Prop := ∀ {G : Gx} {ρ : Rho} {led : Led} {l : Addr} {vs : List Value} {ns : List Int} {t : Tok} {R : Value → Led → Prop}, G.w = w → 1 ≤ G.k → G.base.IsList l vs.toArray → IntsAre vs ns → vs.length ≤ 63 →
  (∀ S x y tx ty k, 0 ≤ x → 0 ≤ y → y < 2147483647 → R (.ref S) ((S, src x tx y ty k) :: led)) → Ca G (.ref 859) [.ref l, .int 0 t] ρ led R
end
end
section
open PySem PySem.W PyProof.Rows PySem.Calls PySem.Spec
section
open LCg
/-- the item's expression over two names does what F says -/
def EltOkP (G : Gx) (ρ : Rho) (elt : PySem.Expr) (x x2 : Str) (scope : Scope) (cl : List (Str × Addr)) (F : Value → Value → Led → (Value → Led → Prop) → Prop) : Prop :=
  ∀ (v v2 : Value) (C : Addr) (oC : Obj) (m₂ : Str → Option Value) (s : Shared) (Φ led : Led) (K : Value → Led → Prop) (Q E : Value → Shared → Prop), NsObj oC m₂ → m₂ x = some v → m₂ x2 = some v2 → (C, oC) ∈ Φ → G.Ok → Inv G Φ ρ led s.heap → F v v2 led K → Exc G Φ s E →
    (∀ r led' h' tk', Inv G Φ ρ led' h' → K r led' → Q r { s with heap := h', toks := tk' }) → wpAny (model prog G.w) G.A (eval elt (compEnvC scope cl C G.env)) Q E s
/-- (f(x), x2.row()) -/
def FPair (w : World) (k : Nat) (f : Addr) (v v2 : Value) (led : Led) (K : Value → Led → Prop) : Prop :=
  FRd w k f v led fun r led1 => FRow w k v2 led1 fun r2 led2 => ∀ a, K (.ref a) ((a, tupO [r, r2]) :: led2)
section
variable {G : Gx} {ρ : Rho} {x x2 : Str} {scope : Scope}
theorem EltOkP.mk {fn : Str} {f : Addr} {np px cp px2 ap cp2 tpos : Pos} {n : Nat} (hg : nsIn (KF G.w.params) mainGlobals fn = some (some (.ref f))) (hf : keepIn (KF G.w.params) (.ref f) = true) (hk : scope.names.lookup fn = some .globalImplicit) (hd : (fn == ("__debug__" : Str)) = false)
    (hkind : scope.kind = .function) (hx : scope.names.lookup x = some .local) (hxd : (x == ("__debug__" : Str)) = false)
    (he : ∀ env, ∃ pl, eval (.Call (.Attribute (.Name x2 px2) "row" ap) [] [] cp2) env = (do let ov ← eval (.Name x2 px2) env; standAt ap.atName; let __x ← holding [ov] (getMethod ov "row" pl); match __x with | (f, first) => callWith cp2 f first (backTo cp2 (starEach [] env)) [])) 
    (hx2 : scope.names.lookup x2 = some .local) (hxd2 : (x2 == ("__debug__" : Str)) = false) : EltOkP G ρ (.Tuple [.Call (.Name fn np) [.Name x px] [] cp, .Call (.Attribute (.Name x2 px2) "row" ap) [] [] cp2] n tpos) x x2 scope [] (FPair G.w G.k f) := by
  intro v v2 C oC m₂ s Φ led K Q E hC hm1 hm2 hm ok I h y k
  refine Tuple_ (spliced_more (EltOk.call (G := G) (ρ := ρ) hg hf hk hd hkind hx hxd v C oC m₂ s Φ led _ _ E hC hm1 hm ok I h y fun r led1 h1 t1 I1 q => ?_) (starEach_plain rfl))
  refine spliced_more (EltOk.row (G := G) (ρ := ρ) he hkind hx2 hxd2 v2 C oC m₂ _ Φ led1 _ _ E hC hm2 hm ok I1 q y fun r2 led2 h2 t2 I2 q => ?_) (starEach_plain rfl)
  obtain ⟨mm, F, hm'⟩ := I2.F
  obtain ⟨sl, hsl, N, D⟩ := I2.N
  exact spliced_none (kup_newTuple F N (fun a h' F' N' l => k (.ref a) ((a, tupO [r, r2]) :: led2) h' t2 ⟨⟨_, F', hm'⟩, sl, hsl, N', nodup_cons l D⟩ (q a)) (by rw [sizeLine_eq]; exact Nat.le_of_ble_eq_true rfl))
theorem FPair.mk {w w' : World} {k n : Nat} {f : Addr} {v v2 : Value} {led led0 : Led} {Out : Led → Value → Prop} {K : Value → Led → Prop} (hw : w' = w) (hn : n ≤ k) (C : RD w n f [v] led0 Out) (sub : ∀ q ∈ led0, q ∈ led) (h : ∀ r tl, (∀ q ∈ tl ++ led0, q ∈ tl ++ led) → Out (tl ++ led0) r → FRow w' k v2 (tl ++ led) fun r2 led2 => ∀ a, K (.ref a) ((a, tupO [r, r2]) :: led2)) : FPair w' k f v v2 led K :=
  FRd.mk hw hn C sub h
/-- a list comprehension over a list of one pair -/
theorem Ex.compP {led : Led} {elt iter : PySem.Expr} {px px2 tp pos : Pos} {tk : Nat} {F : Value → Value → Led → (Value → Led → Prop) → Prop} {R : Value → Led → Prop}
    (hclos : closureFor scope G.env = pure []) (hcell : (scope.names.all fun y => y.2 != .cell) = true) (hkind : scope.kind = .function)
    (hnames : (scope.names.all fun y => (y.2 != .local) || decide (scope.names.lookup y.1 = some .local)) = true) (hx : scope.names.lookup x = some .local) (hx2 : scope.names.lookup x2 = some .local) (hxx : x ≠ x2)
    (he : ∀ m, EltOkP (G.calm m) ρ elt x x2 scope [] F) (hf : ∀ env v, foldedSetIterable iter env v = pure v)
    (h : ∀ m, Ex (G.hold m) iter ρ led fun v led1 => ∃ a t v1 v2 n k, v = .ref a ∧ (a, listOf #[.ref t] k) ∈ led1 ∧ (t, pair v1 v2 n) ∈ led1 ∧ F v1 v2 led1 fun r led2 => (a, listOf #[.ref t] k) ∈ led2 ∧ ∀ D, R (.ref D) ((D, lstO [r]) :: led2)) :
    Ex G (.ListComp elt [⟨.Tuple [.Name x px, .Name x2 px2] tk tp, iter, [], 0⟩] scope pos) ρ led R :=
  fun ok Φ s Q E I k y => by
    obtain ⟨m, F₀, hμ, hm⟩ := id I.F
    refine LCp.ListComp_P (F₀ := F₀) hclos (fun y hy => by simpa using List.all_eq_true.mp hcell y hy) hkind (fun y hy hl => by
      have := List.all_eq_true.mp hnames y hy
      rw [hl] at this
      simpa using this) hx hx2 hxx (h m ⟨ok.B, ok.K, ok.T, ok.f, ok.d, ok.u⟩ Φ s _ E ⟨⟨m, F₀, rfl, hm⟩, I.N⟩ (fun v led1 h1 t1 I1 q => ?_) y) (hf _)
    obtain ⟨a, t, v1, v2, n, kk, rfl, ma, mt, q⟩ := q
    obtain ⟨m1, F1, rfl, hm1⟩ := I1.F
    obtain ⟨sl, hsl, N, D⟩ := I1.N
    have hsl : SrcL G.src sl := hsl
    refine LCp.SrcLP.ledger rfl F1 N (List.mem_append_left _ ma) (by rw [sizeLine_eq]; exact Nat.le_of_ble_eq_true rfl) fun g => ?_
    refine LCp.CompRestP.succ fun v hv => ?_
    obtain rfl : v = .ref t := by simpa using hv.symm
    refine ⟨t, _, v1, v2, n, rfl, List.mem_append_left _ mt, rfl, rfl, fun I oI C oC D' m₂ h₁ tk E' ho hx1 hx2' F₁ N₁ off ne => ?_⟩
    have nd : (((I, oI) :: (C, oC) :: (D', LCg.lst []) :: (led1 ++ (sl ++ Φ))).map (·.1)).Nodup := by
      have o1 := off.mem
      refine List.nodup_cons.mpr ⟨fun c => ?_, List.nodup_cons.mpr ⟨fun c => ?_, List.nodup_cons.mpr ⟨fun c => ?_, D⟩⟩⟩
      · obtain ⟨q, hq, e⟩ := List.mem_map.mp c
        rcases List.mem_cons.mp hq with rfl | hq
        · exact ne.1 e.symm
        · rcases List.mem_cons.mp hq with rfl | hq
          · exact ne.2.1 e.symm
          · exact (o1 q hq).1 e
      · obtain ⟨q, hq, e⟩ := List.mem_map.mp c
        rcases List.mem_cons.mp hq with rfl | hq
        · exact ne.2.2 e.symm
        · exact (o1 q hq).2.1 e
      · obtain ⟨q, hq, e⟩ := List.mem_map.mp c
        exact (o1 q hq).2.2 e
    refine he m1 v1 v2 C oC m₂ { s with heap := h₁, toks := tk } ((I, oI) :: (C, oC) :: (D', LCg.lst []) :: Φ) led1 _ _ E' ho hx1 hx2' (.tail _ (.head _)) ok.calm ⟨⟨m1, F₁, rfl, hm⟩, sl, hsl, fun q hq => N₁ q (perm3_in.mp hq), perm3_nd.mpr nd⟩ q Exc.calm fun r led' h' tk' I' hr => ?_
    obtain ⟨m', F', rfl, hm'⟩ := I'.F
    obtain ⟨sl', hsl', N', D2⟩ := I'.N
    have D3 := perm3_nd.mp D2
    have d1 := List.nodup_cons.mp D3
    have d2 := List.nodup_cons.mp d1.2
    have d3 := List.nodup_cons.mp d2.2
    obtain ⟨hl, hr⟩ := hr
    have off3 : ∀ p ∈ led' ++ (sl' ++ Φ), p.1 ≠ I ∧ p.1 ≠ C ∧ p.1 ≠ D' := fun p hp =>
      have hp' := List.mem_map_of_mem (f := (·.1)) hp
      ⟨fun e => d1.1 (.tail _ (.tail _ (e ▸ hp'))), fun e => d2.1 (.tail _ (e ▸ hp')), fun e => d3.1 (e ▸ hp')⟩
    refine CompEnd.intro F' N' (led' ++ (sl' ++ Φ)) (fun p hp => perm3_in.mpr hp) (Off3.of off3) (.inr ⟨_, List.mem_append_left _ hl, rfl, _, rfl⟩) (LCp.CompRestP.zero ?_)
    intro D2 h2 tk2 F2 N2 o1
    have o1 := off1_mem o1
    exact k (.ref D2) ((D2, lstO [r]) :: led') h2 tk2 ⟨⟨m', F2, hμ, hm⟩, sl', hsl', N2, List.nodup_cons.mpr ⟨fun c => by
      obtain ⟨p, hp, e⟩ := List.mem_map.mp c
      exact o1 p hp e, d3.2⟩⟩ (hr D2)
end
/-- [(f(x), y.row()) for x, y in xs] -/
theorem Ex.compPR {G : Gx} {ρ : Rho} {led : Led} {iter : PySem.Expr} {x x2 : Str} {px px2 tp : Pos} {tk : Nat} {scope : Scope} {pos : Pos} {R : Value → Led → Prop} {fn : Str} {f : Addr} {np px' cp px2' ap cp2 tpos : Pos} {n : Nat} (hg : nsIn (KF G.w.params) mainGlobals fn = some (some (.ref f))) (hf : keepIn (KF G.w.params) (.ref f) = true) (hk : scope.names.lookup fn = some .globalImplicit) (hd : (fn == ("__debug__" : Str)) = false) (hxd : (x == ("__debug__" : Str)) = false) (hxd2 : (x2 == ("__debug__" : Str)) = false)
    (he : ∀ env, ∃ pl, eval (.Call (.Attribute (.Name x2 px2') "row" ap) [] [] cp2) env = (do let ov ← eval (.Name x2 px2') env; standAt ap.atName; let __x ← holding [ov] (getMethod ov "row" pl); match __x with | (f, first) => callWith cp2 f first (backTo cp2 (starEach [] env)) [])) 
    (hclos : closureFor scope G.env = pure []) (hcell : (scope.names.all fun y => y.2 != .cell) = true) (hkind : scope.kind = .function)
    (hnames : (scope.names.all fun y => (y.2 != .local) || decide (scope.names.lookup y.1 = some .local)) = true) (hx : scope.names.lookup x = some .local) (hx2 : scope.names.lookup x2 = some .local) (hxx : x ≠ x2) (hfs : ∀ env v, foldedSetIterable iter env v = pure v)
    (h : ∀ m, Ex (G.hold m) iter ρ led fun v led1 => ∃ a t v1 v2 n k, v = .ref a ∧ (a, listOf #[.ref t] k) ∈ led1 ∧ (t, pair v1 v2 n) ∈ led1 ∧ FPair G.w G.k f v1 v2 led1 fun r led2 => (a, listOf #[.ref t] k) ∈ led2 ∧ ∀ D, R (.ref D) ((D, lstO [r]) :: led2)) :
    Ex G (.ListComp (.Tuple [.Call (.Name fn np) [.Name x px'] [] cp, .Call (.Attribute (.Name x2 px2') "row" ap) [] [] cp2] n tpos) [⟨.Tuple [.Name x px, .Name x2 px2] tk tp, iter, [], 0⟩] scope pos) ρ led R :=
  .compP hclos hcell hkind hnames hx hx2 hxx (fun m => EltOkP.mk (G := G.calm m) hg hf hk hd hkind hx hxd he hx2 hxd2) hfs h
end
end
section
open PySem PySem.W PyProof.Rows PySem.Calls PySem.Spec
theorem mk45 (P : Params) : excMk (KF P) 45 :=
  ⟨"ReadError", "ReadError", 44, [.ref 32], [.ref 32, .type "Exception", .type "BaseException", .type "object"], true, [], [], false, none, none, some (.ref 36), none, some (.str "ReadError" 220), some (.str "ReadError" 228), some (.bool true), by kernel_rfl, by decide +kernel, by decide +kernel, by decide +kernel, by decide +kernel, by decide +kernel⟩
theorem st45 (P : Params) : excSt (KF P) 45 :=
  ⟨⟨"ReadError", [.ref 32], [.ref 45, .ref 32, .type "Exception", .type "BaseException", .type "object"], 44, "ReadError", true, [], [], false, none, false⟩, 45, 32, by kernel_rfl, rfl, rfl⟩
theorem memX {env : Env} {L b : Addr} {outer : List Env} (hf : env.frame = some L) (hm : b ∈ (env :: outer).filterMap (·.frame)) : b = L ∨ b ∈ outer.filterMap (·.frame) := by
  obtain ⟨env', he, hf'⟩ := List.mem_filterMap.mp hm
  rcases List.mem_cons.mp he with rfl | he
  · exact .inl (Option.some.inj (hf'.symm.trans hf))
  · exact .inr (List.mem_filterMap.mpr ⟨env', he, hf'⟩)
theorem err_onX {M : Model} {A : Around} {E : Value → Shared → Prop} {s' : Shared} {C : Addr} {base g g₂ : Heap} {outer : List Env} {L e : Addr} {m : Str → Option Value} {env : Env} {Q : Unit → Shared → Prop} {led : Led} (K : Below A base outer g) (hf : env.frame = some L) (F : Fr g L g₂ m) (R : Err C base g₂ (env :: outer) e led s'.heap)
    (hQ : ∀ h', Err C base g outer e led h' → Q () { s' with heap := h' }) : wpAny M (A.deeper env) (leaving env (.ref e)) Q E s' := by
  obtain ⟨⟨B, dx, od, a1, a2, a3, a4, a5, a6, a7, a8⟩, u⟩ := R
  refine leaves_next (Around.frames_deeper K.stack) hf a8 fun h' k1 k2 => hQ h' ⟨⟨B, dx, od, a1, fun b o ho nm => a2 b o (F.keep b o ho) fun hm => ?_, fun q hq => ⟨(a3 q hq).1, kts_none F.keep (a3 q hq).2⟩, a4, a5, kts_none F.keep a6, kts_none F.keep a7, k1⟩, (Heap.UpToSlots.of_keeps F.keep).trans (u.trans k2)⟩
  rcases memX hf hm with z | z
  · rw [z, kts_self F] at ho; cases ho
  · exact nm z
section
variable {prog : Program} {w : World} {A₀ A : Around} {s : Shared} {base h₀ : Heap} {outer : List Env} {L : Addr} {m : Str → Option Value} {env : Env} {news : List (Addr × Obj)} {K : Frag} {p : Program} {loose : List Str} {mean : ExcName → Option Value} {mg mb : Str → Option Value}
  {R : Result → Shared → Prop} {name qual : Str} {params : Arguments} {body : List Stmt} {scope : Scope} {dV kV doc pm cdv ct oc : Value} {an od : Option Addr} {osl : Array (Option Value)} {f : Addr} {args : Args} {binds : List (Str × Value)}
theorem enterX (B : Below A₀ base outer h₀) (F : Fr h₀ L s.heap m) (N : News h₀ L s.heap news) (hA : A.frames = some (env :: outer)) (hf : env.frame = some L) (hke : env.scope.kind = .function) :
    ∃ oL es ep, (hideAll s.heap (news.map (·.1))).get? L = some oL ∧ oL.data = .dict es ep ∧ (∀ h', h'.get? L = some oL → Heap.Ns h' L m) ∧ (∀ (sl : Array (Option Value)) h', h'.get? L = some { oL with slots := sl } → Heap.Ns h' L m) ∧
      h₀.StaysIn (hideAll s.heap (news.map (·.1))) ∧ Below A base (env :: outer) (hideAll s.heap (news.map (·.1))) := by
  have nm : ∀ b o, h₀.get? b = some o → b ∉ news.map (·.1) := fun b o e q => by
    obtain ⟨p, hp, rfl⟩ := List.mem_map.mp q
    rw [(N p hp).2.2] at e; cases e
  have st : h₀.StaysIn (hideAll s.heap (news.map (·.1))) := fun b o e => hideAll_get _ (F.keep b o e) (nm b o e)
  obtain ⟨oL, es, ep, hL, hLd, hLk, hLf⟩ := F.ns
  have nL : L ∉ news.map (·.1) := fun q => by
    obtain ⟨p, hp, e⟩ := List.mem_map.mp q
    exact (N p hp).2.1 e
  have hLg := hideAll_get (news.map (·.1)) hL nL
  have B₁ := pushX B F hf hke
  exact ⟨oL, es, ep, hLg, hLd, fun h' e => ⟨oL, es, ep, e, hLd, hLk, hLf⟩, fun sl h' e => ⟨_, es, ep, e, hLd, hLk, hLf⟩, st, ⟨hA, fun b o e => st b o (B.stays b o e), funFrames_hideAll B₁.frames fun env' he b hb hf' => by
    cases he with
    | head => exact nL ((Option.some.inj (hf.symm.trans hf') : L = b) ▸ hb)
    | tail _ he =>
      obtain ⟨L₁, o₁, hf₁, ho₁⟩ := funFrames_in B.frames env' he
      rw [hf₁] at hf'
      exact nm L₁ o₁ ho₁ ((Option.some.inj hf' : L₁ = b) ▸ hb)⟩⟩
theorem code_defSX (B : Below A₀ base [] h₀) (F : Fr h₀ L s.heap m) (X₀ : K.In h₀) (N : News h₀ L s.heap news) (T : Top p loose mean mg mb h₀) (hA : A.frames = some [env]) (hf : env.frame = some L) (hke : env.scope.kind = .function)
    (ho : K.lookup f = some ⟨oc, od, .func (fnOf name qual params body scope dV kV doc pm an cdv ct), osl⟩) (hcd : codeIn K cdv qual = true) (hroom : A.depth < recursionLimit)
    (hbind : BindsTo s (fnOf name qual params body scope dV kV doc pm an cdv ct) args binds) (hloc : ∀ y ∈ binds, scope.names.lookup y.1 = some .local)
    (h : ∀ g L' h₁, Fr h₀ L g m → Fr g L' h₁ (fun y => binds.reverse.lookup y) → News g L' h₁ news → Below A base [env] g → K.In g → Top p loose mean mg mb g → KtsDicts ([env].filterMap (·.frame)) g →
      wpAny (model prog w) (A.deeper (envOf qual scope L' f cdv)) (execs body (envOf qual scope L' f cdv))
        (fun fl s' => LeaveS0 ([env].filterMap (·.frame)) h₀ L m g R (match fl with | .ret v => v | _ => .none) s')
        (fun e s' => wpAny (model prog w) (A.deeper (envOf qual scope L' f cdv)) (leaving (envOf qual scope L' f cdv) e) (fun _ s'' => R (.error e) s'') (fun e' s'' => R (.error e') s'') s')
        { s with heap := h₁, toks := s.toks + binds.length })
    (hco : scope.isCoroutine = false) (hgen : scope.isGenerator = false) (hk : scope.kind = .function)
    (hcell : ∀ x ∈ scope.names, x.2 ≠ .cell) : codeAny (model prog w) A (.call (.ref f) args) R s := by
  have X := X₀.keeps F.keep
  refine codeAny_call_def (fd := fnOf name qual params body scope dV kV doc pm an cdv ct) (body := body) (binds := binds) hroom (X _ _ ho) rfl (T.nolimit.keeps F.keep) (codeRec_of X hcd) rfl hbind hcell hloc (fun h₁ hns hk₁ => ?_) hco hgen hk
  obtain ⟨oL, es, ep, hLg, hLd, hN, hNs, st, B₂⟩ := enterX B F N hA hf hke
  refine wpAny_mono (h _ s.heap.objs.size h₁ ⟨hN _ hLg, st, F.above⟩ ⟨hns, fun b o e => hk₁ b o (of_hideAll _ e), Nat.le_of_eq (hideAll_size _ _)⟩
    (fun p hp => ⟨hk₁ _ _ (N p hp).1, Nat.ne_of_lt (Heap.lt_size (N p hp).1), hideAll_none _ (List.mem_map_of_mem hp)⟩) B₂ (X₀.keeps st) (T.keeps st) (fun b hb => by
      rcases memX hf hb with rfl | z
      · exact ⟨oL, es, ep, hLg, hLd⟩
      · simp at z)) (fun fl s' hl => ?_) fun _ _ y => y
  obtain ⟨g', L', m', news', T', F', N', k⟩ := hl
  have nL₀ : h₀.get? L = none := kts_self F
  obtain ⟨sl, hs⟩ := T'.up hLg
  refine k ⟨hNs sl _ (F'.keep _ _ hs), fun b o e => F'.keep b o (T'.other b o (st b o e) (fun q => by
    rcases memX hf q with z | z
    · rw [z, nL₀] at e
      cases e
    · simp at z)), F.above⟩ fun p hp => ⟨(N' p hp).1, fun q => ?_, ?_⟩
  · have := (N' p hp).2.2; rw [q, hs] at this; cases this
  · cases q : h₀.get? p.1 with
    | none => rfl
    | some o =>
      obtain ⟨sl', hs'⟩ := T'.up (st _ _ q)
      have := (N' p hp).2.2
      rw [hs'] at this
      cases this
end
theorem exc_tab (P : Params) : findIn (KF P) (.ref 45) "__getattribute__" = some (some (.builtin "BaseException.__getattribute__")) ∧ findIn (KF P) (.ref 45) "__getattr__" = some none ∧ hasDictIn (KF P) 45 = true ∧ findIn (KF P) (.ref 45) "message" = some none ∧ noGet (KF P) none = true := by
  refine ⟨?_, ?_, ?_, ?_, ?_⟩ <;> kernel_rfl
theorem msg_get {prog : Program} {w : World} {A : Around} {E : Value → Shared → Prop} {s : Shared} {g : Heap} {L e dx : Addr} {m : Str → Option Value} {led : Led} {oe od : Obj} {ws : Array Value} {expr : Bool} {Q : Value → Shared → Prop} (F : Fr g L s.heap m) (X : (KF w.params).In g) (N : News g L s.heap led) (me : (e, oe) ∈ led) (md : (dx, od) ∈ led) (hc : oe.cls = .ref 45) (hdx : oe.dict = some dx) (hdd : oe.data = .fields ws) (hm : MsgDict od)
    (h : ∀ x t, (x == ("" : Str)) = false → Q (.str x t) { s with toks := s.toks + 1 }) : wpAny (model prog w) A (getAttr (.ref e) "message" expr) Q E s := by
  obtain ⟨es, n, x, t, rfl, hms, hne⟩ := hm
  have I : InstAt s.heap e oe 45 (some (dictOf es n)) := ⟨(N _ me).1, hc, by unfold notCls; rw [hdd], by rw [hdx]; exact (N _ md).1⟩
  exact exc_get (X.keeps F.keep) I (st45 _) (exc_tab _).1 (exc_tab _).2.1 (findObj_own (exc_tab _).2.2.1 (exc_tab _).2.2.2.1 (exc_tab _).2.2.2.2 (by show lookIn "message" (dictOf es n) = _; rw [lookIn_dict, hms])) rfl (h x t hne)
theorem ne_empty {prog : Program} {w : World} {A : Around} {E : Value → Shared → Prop} {s : Shared} {x : Str} {t u : Tok} {Q : Value → Shared → Prop} (hne : (x == ("" : Str)) = false) (h : Q (.bool true) s) : wpAny (model prog w) A (compareOp .NotEq (.str x t) (.str "" u)) Q E s := by
  refine ne_str ?_
  have : (x != ("" : Str)) = true := by unfold bne; rw [hne]; rfl
  rw [this]; exact h
/-- raised in this very frame: it leaves -/
theorem err_firstX {M : Model} {A : Around} {E : Value → Shared → Prop} {s' : Shared} {C : Addr} {base g : Heap} {outer : List Env} {L e dx : Addr} {m : Str → Option Value} {env : Env} {Q : Unit → Shared → Prop} {news led : Led} {oe od : Obj} {vs : Array Value} (K : Below A base outer g) (hf : env.frame = some L) (hk : env.scope.kind = .function) (F : Fr g L s'.heap m) (N : News g L s'.heap news) (me : (e, oe) ∈ news) (md : (dx, od) ∈ news) (hc : oe.cls = .ref C) (hdx : oe.dict = some dx) (hd : oe.data = .fields vs) (h1 : vs[1]? = some .none)
    (hm : MsgDict od) (hl : ∀ q ∈ led, q ∈ news ∧ q.1 ≠ e)
    (hQ : ∀ h', Err C base g outer e led h' → Q () { s' with heap := h' }) :
    wpAny M (A.deeper env) (leaving env (.ref e)) Q E s' := by
  have K' := pushX K F hf hk
  obtain ⟨es, n, x, t, rfl, hms⟩ := hm
  have hne : dx ≠ e := fun q => by
    have h2 := (N _ md).1; rw [q] at h2; rw [(N _ me).1] at h2; cases h2; cases hd
  have frame_not : ∀ q ∈ news, q.1 ∉ (env :: outer).filterMap (·.frame) := fun q hq hm => by
    rcases memX hf hm with z | z
    · exact (N q hq).2.1 z
    · obtain ⟨o, ho, _⟩ := (K.frames.mem z).2
      rw [(N q hq).2.2] at ho; cases ho
  have hide : ∀ b o, s'.heap.get? b = some o → b ≠ e → b ∉ (env :: outer).filterMap (·.frame) → (hideAll s'.heap (e :: (env :: outer).filterMap (·.frame))).get? b = some o := fun b o ho h1 h2 =>
    hideAll_get _ ho fun hm => (List.mem_cons.mp hm).elim h1 h2
  have gne : ∀ b o, g.get? b = some o → b ≠ e := fun b o ho q => by rw [q, (N _ me).2.2] at ho; cases ho
  have stB : base.StaysIn (hideAll s'.heap (e :: (env :: outer).filterMap (·.frame))) := fun b o q => hide b o (K'.stays b o q) (gne b o (K.stays b o q)) fun hm => by rw [(K'.frames.mem hm).1] at q; cases q
  refine leaves_first (base := hideAll s'.heap (e :: (env :: outer).filterMap (·.frame))) K'.stack (funFrames_hide K'.frames fun env' he b hb => .tail _ (List.mem_filterMap.mpr ⟨env', he, hb⟩)) hf (N _ me).1 (fun b o q => of_hideAll _ q) (hideAll_none _ (.head _)) hd h1 hdx fun h' k1 k2 => hQ h' ⟨⟨_, dx, _, stB, ?_, ?_, ?_, ⟨es, n, x, t, rfl, hms⟩, (N _ md).2.2, (N _ me).2.2, hc ▸ k1⟩, (Heap.UpToSlots.of_keeps F.keep).trans k2⟩
  · exact fun b o ho nm => hide b o (F.keep b o ho) (gne b o ho) fun hm => by
      rcases memX hf hm with z | z
      · rw [z, kts_self F] at ho; cases ho
      · exact nm z
  · exact fun q hq => ⟨hide _ _ (N q (hl q hq).1).1 (hl q hq).2 (frame_not q (hl q hq).1), (N q (hl q hq).1).2.2⟩
  · exact hide _ _ (N _ md).1 hne (frame_not _ md)
/-- what a callee may raise -/
def Exc1 (G : Gx) (Φ : Led) (s : Shared) (E : Value → Shared → Prop) : Prop :=
  ∀ all0, G.ex = some all0 → ∀ e g' m' h' tk', Fr G.g G.L g' m' → Err 45 G.base g' (G.env :: G.outer) e (all0 ++ Φ) h' → E (.ref e) { s with heap := h', toks := tk' }
theorem Exc.one {G : Gx} {Φ : Led} {s : Shared} {E : Value → Shared → Prop} (x : Exc G Φ s E) : Exc1 G Φ s E := fun all0 h => (x all0 h).1
def Ca1 (G : Gx) (f : Value) (vs : List Value) (ρ : Rho) (led : Led) (R : Value → Led → Prop) : Prop :=
  G.Ok → ∀ (Φ : Led) (s : Shared) (Q : Value → Shared → Prop) (E : Value → Shared → Prop), Inv G Φ ρ led s.heap →
    (∀ v led' h' tk', Inv G Φ ρ led' h' → R v led' → Q v { s with heap := h', toks := tk' }) → Exc1 G Φ s E → wpAny (model prog G.w) G.A (call f vs) Q E s
theorem Ca1.to {G : Gx} {f : Value} {vs : List Value} {ρ : Rho} {led : Led} {R : Value → Led → Prop} (h : Ca1 G f vs ρ led R) : Ca G f vs ρ led R :=
  fun ok Φ s Q E I k x => h ok Φ s Q E I k x.one
abbrev Gx.calleeX (G : Gx) (k : Nat) (qual : Str) (scope : Scope) (L' f : Addr) (cdv : Value) (cl : List (Str × Addr)) (g : Heap) : Gx :=
  ⟨G.w, G.dp + 1, G.un + 3, k, G.gd, qual, scope, L', f, cdv, cl, G.env :: G.outer, G.base, g, G.ex, G.src, fun _ => True⟩
abbrev noArgs : Arguments := { posonlyargs := [], args := [], vararg := none, kwonlyargs := [], kw_defaults := [], kwarg := none, defaults := [] }
/-- a lambda without arguments is called -/
theorem Ca1.lam {G : Gx} {ρ : Rho} {led : Led} {lam c' : Addr} {name qual : Str} {body : PySem.Expr} {scope : Scope} {cl : List (Str × Addr)} {pm ctv : Value} {oc : Obj} {vs : Array Value} {t : Tok} {R : Value → Led → Prop}
    (ml : (lam, kla_obj name qual noArgs body scope cl pm c' ctv) ∈ led) (mc : (c', oc) ∈ led) (hd : oc.data = .fields vs) (hv : vs[1]? = some (.str qual t)) (hn : 1 ≤ G.k)
    (hco : scope.isCoroutine = false) (hgen : scope.isGenerator = false) (hk : scope.kind = .function) (hcell : (scope.names.all fun y => y.2 != .cell) = true)
    (hb : ∀ G' : Gx, G'.w = G.w → G'.sc = scope → G'.k = G.k - 1 → G'.src = G.src → G'.ex = G.ex → G'.base = G.base → G'.cl = cl → Ex G' body [] led R) : Ca1 G (.ref lam) [] ρ led R :=
  fun ok Φ s Q E I kk x => by
    obtain ⟨m, F, hm⟩ := I.F
    obtain ⟨sl, hsl, N, D⟩ := I.N
    obtain ⟨A₀, B⟩ := ok.B
    obtain ⟨p, loose, mean, mg, mb, T⟩ := ok.T
    refine wpAny_call (kla_code (K := KF G.w.params) B F ok.K N T rfl rfl ok.f (List.mem_append_left _ ml) (codeRec_news N (List.mem_append_left _ mc) hd hv) (by have := ok.d; show G.dp < 1000; omega) rfl (by intro y hy; cases hy) (fun g L' h₁ FG F' N' B' X' T' => ?_) hco hgen hk fun y hy => by simpa using List.all_eq_true.mp hcell y hy)
    refine hb (G.calleeX (G.k - 1) qual scope L' lam (.ref c') cl g) rfl rfl rfl rfl rfl rfl rfl ⟨⟨G.A, B'⟩, X', ⟨p, loose, mean, mg, mb, T'⟩, hk, ?_, ?_⟩ Φ _ _ _ ⟨⟨_, F', trivial, fun q hq => (nomatch hq)⟩, sl, hsl, N', D⟩ (fun v led' h' tk' I' r => ?_) (fun all0 hex => ⟨fun e g' m' h' tk' F2 R2 => ?_, fun e dx a0 sl2 od m' news h' tk' F2 N2 me md hmsg hl => ?_⟩)
    · have := ok.d
      show G.dp + 1 + (G.k - 1) < 1000
      omega
    · have := ok.u
      show G.un + 3 + 8 * (G.k - 1) < 9900
      omega
    · obtain ⟨m2, F2, _⟩ := I'.F
      obtain ⟨sl2, hsl2, N2, D2⟩ := I'.N
      exact ⟨_, m2, _, F2, N2, fun Fc Nc => kk v led' h' tk' ⟨⟨m, Fc, hm⟩, sl2, hsl2, Nc, D2⟩ r⟩
    · exact err_onX (A := G.A) (outer := G.env :: G.outer) B' rfl F2 R2 fun h'' R3 => x all0 hex e g m h'' tk' FG R3
    · exact err_firstX (A := G.A) (outer := G.env :: G.outer) B' rfl hk F2 N2 me md rfl rfl rfl rfl hmsg hl fun h'' R3 => x all0 hex e g m h'' tk' FG R3
theorem re_glob (P : Params) : nsIn (KF P) mainGlobals "ReadError" = some (some (.ref 45)) := by kernel_rfl
theorem re_isx (P : Params) : ktsIn (KF P) 45 "BaseException" = true := by kernel_rfl
end
section
open PySem PySem.W PyProof.Rows PySem.Calls PySem.Spec
/-- where (d, o) lies, whatever is put there -/
inductive AtF (d : Addr) (o : Obj) : Led → (Obj → Led) → Prop
  | head {r} : AtF d o ((d, o) :: r) (fun o' => (d, o') :: r)
  | tail {p r g} : AtF d o r g → AtF d o (p :: r) (fun o' => p :: g o')
  | app {t r g} : AtF d o r g → AtF d o (t ++ r) (fun o' => t ++ g o')
theorem AtF.split {d : Addr} {o : Obj} {l : Led} {g : Obj → Led} (h : AtF d o l g) : ∃ pre post, l = pre ++ (d, o) :: post ∧ ∀ o', g o' = pre ++ (d, o') :: post := by
  induction h with
  | head => exact ⟨[], _, rfl, fun _ => rfl⟩
  | tail _ ih => obtain ⟨a, b, c, e⟩ := ih; exact ⟨_ :: a, b, by rw [c]; rfl, fun o' => by dsimp only; rw [e]; rfl⟩
  | app _ ih => obtain ⟨a, b, c, e⟩ := ih; exact ⟨_ ++ a, b, by rw [c, List.append_assoc], fun o' => by dsimp only; rw [e, List.append_assoc]⟩
theorem updF_of {d : Addr} {o : Obj} : ∀ (pre post : Led), ((pre ++ (d, o) :: post).map (·.1)).Nodup → UpdF d o (pre ++ (d, o) :: post) (fun o' => pre ++ (d, o') :: post)
  | [], post, D => .head (nodup_ne (pre := []) D).2
  | p :: pre, post, D => .tail ((nodup_ne D).1 p (.head _)) (updF_of pre post (List.nodup_cons.mp D).2)
theorem AtF.upd {d : Addr} {o : Obj} {l r : Led} {g : Obj → Led} (h : AtF d o l g) (n : ((l ++ r).map (·.1)).Nodup) : UpdF d o (l ++ r) (fun o' => g o' ++ r) ∧ ∀ o', ((g o' ++ r).map (·.1)).Nodup := by
  obtain ⟨a, b, rfl, e⟩ := h.split
  have e' : (fun o' => g o' ++ r) = fun o' => a ++ (d, o') :: (b ++ r) := funext fun o' => by rw [e, List.append_assoc, List.cons_append]
  rw [List.append_assoc, List.cons_append] at n
  refine ⟨?_, fun o' => ?_⟩
  · rw [e', List.append_assoc, List.cons_append]
    exact updF_of a (b ++ r) n
  · rw [e, List.append_assoc, List.cons_append, List.map_append, List.map_cons]
    rw [List.map_append, List.map_cons] at n
    exact n
theorem Inv.swap {G G' : Gx} {Φ : Led} {ρ : Rho} {led led' sl sl' : Led} {h : Heap} (F : ∃ m, Fr G'.g G'.L h m ∧ G'.μ m ∧ ∀ p ∈ ρ, m p.1 = some p.2) (eg : G'.g = G.g) (eL : G'.L = G.L) (hsl : SrcL G'.src sl') (N : News G.g G.L h (led ++ (sl ++ Φ))) (D : ((led ++ (sl ++ Φ)).map (·.1)).Nodup)
    (p : (led' ++ (sl' ++ Φ)).Perm (led ++ (sl ++ Φ))) : Inv G' Φ ρ led' h :=
  ⟨F, sl', hsl, by rw [eg, eL]; exact fun q hq => N q (p.mem_iff.mp hq), (p.map _).nodup_iff.mpr D⟩
section
variable {G : Gx} {ρ : Rho} {led : Led}
/-- the source goes out of sight while it is eaten -/
theorem Ca.leftL {w : World} {S : Addr} {x y : Int} {tx ty : Tok} {k : Nat} {R : Value → Led → Prop} (C : LeftC w) (hw : G.w = w) (hn : 40 ≤ G.k) (hS : G.src = none) (h0 : 0 ≤ x) (h1 : 0 ≤ y) (h2 : y < 2147483647)
    (h : ∀ tl S ob D n b v due, (D, pair (.ref b) v n) ∈ tl → LeftIn tl b due → DueIn tl v due → R (.ref D) (tl ++ (S, ob) :: led)) : Ca G (.ref 908) [.ref S] ρ ((S, src x tx y ty k) :: led) R :=
  fun ok Φ s Q E I kk z => by
    have c := C (S := S) { G with src := some S } ρ led (fun v led' => ∃ tl, led' = tl ++ led ∧ O_left tl v) hw hn rfl (fun _ h => (nomatch h)) (fun v tl o => ⟨tl, rfl, o⟩)
    obtain ⟨sl, hsl, N, D⟩ := I.N
    rw [hS] at hsl; cases hsl
    refine c ⟨ok.B, ok.K, ok.T, ok.f, ok.d, ok.u⟩ Φ s Q E (Inv.swap (G := G) (sl' := [(S, src x tx y ty k)]) I.F rfl rfl (.some h0 h1 h2) N D List.perm_middle) (fun v led' h' tk' I' o => ?_) z
    obtain ⟨tl, rfl, o⟩ := o
    obtain ⟨sl, hsl, N, D⟩ := I'.N
    have hsl : SrcL (some S) sl := hsl
    cases hsl with
    | some a0 a1 a2 =>
      rename_i x' y' tx' ty' k'
      cases o with
      | mk m1 m2 m3 =>
      refine kk _ (tl ++ (S, src x' tx' y' ty' k') :: led) h' tk' (Inv.swap (G := { G with src := some S }) (sl' := []) I'.F rfl rfl (by rw [hS]; exact .none) N D ?_) (h tl S _ _ _ _ _ _ m1 m2 m3)
      rw [List.append_assoc, List.append_assoc, List.cons_append]
      exact List.Perm.append_left _ (List.perm_middle (l₁ := led)).symm
-- cells
theorem Ex.cel {sc : Scope} {cl : List (Str × Addr)} {x : Str} {pos : Pos} {c : Addr} {o : Obj} {v : Value} {R : Value → Led → Prop} (hs : G.sc = sc) (hcl : G.cl = cl) (hc : cl.lookup x = some c) (hm : (c, o) ∈ led) (hd : o.data = .cell (some v)) (hk : sc.names.lookup x = some .cell) (hdb : (x == ("__debug__" : Str)) = false) (h : R v led) : Ex G (.Name x pos) ρ led R :=
  fun ok _ s _ _ I k _ => have ⟨_, _, N, _⟩ := I.N
    nameX_C N (by subst hcl; exact hc) (List.mem_append_left _ hm) hd (k v led s.heap s.toks I h) ok.f (by subst hs; exact hk) hdb
theorem Ex.fre {sc : Scope} {cl : List (Str × Addr)} {x : Str} {pos : Pos} {c : Addr} {o : Obj} {v : Value} {R : Value → Led → Prop} (hs : G.sc = sc) (hcl : G.cl = cl) (hc : cl.lookup x = some c) (hm : (c, o) ∈ led) (hd : o.data = .cell (some v)) (hk : sc.names.lookup x = some .free) (hdb : (x == ("__debug__" : Str)) = false) (hdc : (x == ("__classdict__" : Str)) = false) (h : R v led) : Ex G (.Name x pos) ρ led R :=
  fun ok _ s _ _ I k _ => have ⟨_, _, N, _⟩ := I.N
    nameX_F N (by subst hcl; exact hc) (List.mem_append_left _ hm) hd (k v led s.heap s.toks I h) ok.f (by subst hs; exact hk) hdb hdc
theorem Tr.storeC {x : Str} {v : Value} {sc : Scope} {cl : List (Str × Addr)} {c : Addr} {o : Obj} {v0 : Option Value} {g : Obj → Led} (hs : G.sc = sc) (hcl : G.cl = cl) (hk : sc.names.lookup x = some .cell) (hc : cl.lookup x = some c) (hd : o.data = .cell v0) (U : AtF c o led g) {R : Unit → Rho → Led → Prop} (h : ∀ o', o'.data = .cell (some v) → R () ρ (g o')) : Tr G (storeName G.env x v) ρ led R :=
  fun ok Φ s _ E I k z => have ⟨m, F, hm⟩ := I.F
    have ⟨sl, hsl, N, D⟩ := I.N
    have ⟨U1, D1⟩ := U.upd D
    storeX_C F N (by subst hcl; exact hc) U1 hd (fun h' o' F' N' hd' => k () ρ (g o') h' s.toks ⟨⟨m, F', hm⟩, sl, hsl, N', D1 o'⟩ (h o' hd')) ok.f (by subst hs; exact hk)
/-- x = e, x a cell -/
theorem Ss.asgC {x : Str} {e : PySem.Expr} {px pos : Pos} {rest : List Stmt} {sc : Scope} {cl : List (Str × Addr)} {c : Addr} {R : Flow → Rho → Led → Prop} (hs : G.sc = sc) (hcl : G.cl = cl) (hk : sc.names.lookup x = some .cell) (hc : cl.lookup x = some c) (hw : ∀ env, swapsWith e (some (.Name x px)) pos.line env = pure false)
    (h : Ex G e ρ led fun v led1 => ∃ o v0 g, AtF c o led1 g ∧ o.data = .cell v0 ∧ ∀ o', o'.data = .cell (some v) → Ss G rest ρ (g o') R) : Ss G (.Assign [.Name x px] e pos :: rest) ρ led R :=
  .cons fun ok Φ s Q E I k y => wpAny_Assign_Name (h ok Φ s _ E I (fun v led1 h1 t1 I1 q9 => by obtain ⟨o, v0, g, U, hd, q⟩ := q9; exact Tr.storeC (R := fun _ ρ' led' => nxt G rest R .next ρ' led') hs hcl hk hc hd U q ok Φ _ _ E I1 (fun _ => k _) y) y.2) (hw _)
/-- x, y = e, x a cell -/
theorem Ss.asg2C {x y : Str} {e : PySem.Expr} {px py tpos pos : Pos} {n : Nat} {sc : Scope} {cl : List (Str × Addr)} {cc : Addr} {rest : List Stmt} {R : Flow → Rho → Led → Prop} (hs : G.sc = sc) (hcl : G.cl = cl) (hx : sc.names.lookup x = some .cell) (hc : cl.lookup x = some cc) (hy : sc.names.lookup y = some .local)
    (hw : ∀ env, swapsWithSole [.Tuple [.Name x px, .Name y py] n tpos] e pos.line env = pure false) (hn : ∀ cn L a ccd, swappedStores [.Tuple [.Name x px, .Name y py] n tpos] e (envX cn sc L a ccd cl) = pure none)
    (h : Ex G e ρ led fun v led1 => ∃ D a b k ρ2 o v0 g, v = .ref D ∧ (D, pair a b k) ∈ led1 ∧ Drp y ρ ρ2 ∧ AtF cc o led1 g ∧ o.data = .cell v0 ∧ ∀ o', o'.data = .cell (some a) → Ss G rest ((y, b) :: ρ2) (g o') R) : Ss G (.Assign [.Tuple [.Name x px, .Name y py] n tpos] e pos :: rest) ρ led R :=
  .cons fun ok Φ s Q E I k z => Assign_Tuple (h ok Φ s _ E I (fun v led1 h1 t1 I1 q9 => by
    obtain ⟨D, a, b, kk, ρ2, o, v0, g, e, m, d2, U, hd, q⟩ := q9
    subst e
    obtain ⟨mm, F, hm⟩ := I1.F
    obtain ⟨sl, hsl, N, Dd⟩ := I1.N
    refine unpackN_ F N (N.isTup (List.mem_append_left _ m)) rfl rfl rfl fun h' F' N' => ?_
    refine assignInOrder_cons (assign_Name ?_)
    refine wpAny_mono (Tr.storeC (R := fun _ ρ' led' => ρ' = ρ ∧ ∃ o', led' = g o' ∧ o'.data = .cell (some a)) hs hcl hx hc hd U (fun o' h => ⟨rfl, o', rfl, h⟩) ok Φ { s with heap := h', toks := t1 } _ E ⟨⟨mm, F', hm⟩, sl, hsl, N', Dd⟩ (fun _ ρ' led' h' tk' I' e => ?_) z) (fun _ s' h => h) fun _ _ h => h
    obtain ⟨rfl, o', rfl, hd'⟩ := e
    refine assignInOrder_cons (assign_Name ?_)
    exact wpAny_mono (Tr.store (R := fun _ ρ' led' => nxt G rest R .next ρ' led') hs hy d2.sub.1 d2.sub.2 (q o' hd') ok Φ _ (fun _ s' => Q .next s') E I' (fun _ ρ' led' h' tk' I' q => k _ ρ' led' h' tk' I' q) z) (fun _ _ q => assignInOrder_nil q) fun _ _ h => h) z.2) (hw _) (by subst hs hcl; exact hn _ _ _ _)
/-- lambda: body -/
theorem Ex.lam {sc : Scope} {cl clos : List (Str × Addr)} {c P : Addr} {ps : Array Value} {g : Obj → Led} {body : PySem.Expr} {scope : Scope} {pos : Pos} {R : Value → Led → Prop} (hs : G.sc = sc) (hcl : G.cl = cl) (hcd : G.ccd = .ref c) (C : CodeHd G.g c P)
    (U : AtF P (tabObj ps) led g) (ht : TriplesOk ps.toList) (hnf : codeAmong pos ps.toList = Option.none) (hclos : ∀ cn L a ccd, closureFor scope (envX cn sc L a ccd cl) = pure clos)
    (h : ∀ f c' oc vs t ctv pm qual, oc.data = .fields vs → vs[1]? = some (.str qual t) → R (.ref f) ((f, kla_obj "<lambda>" qual noArgs body scope clos pm c' ctv) :: (c', oc) :: g (tabObj (ps ++ #[rawInt pos.line, rawInt pos.col, .ref c'])))) : Ex G (.Lambda noArgs body scope pos) ρ led R :=
  fun ok Φ s _ E I k x => by
    obtain ⟨m, F, hm⟩ := I.F
    obtain ⟨sl, hsl, N, D⟩ := I.N
    obtain ⟨p, loose, mean, mg, mb, T⟩ := ok.T
    obtain ⟨U1, D1⟩ := U.upd D
    refine kla_eval rfl (kla_nest F N T C hcd U1 ht hnf (by subst hs hcl; exact hclos _ _ _ _) fun f c' oc vs t ctv h' tk' F' N' hd hv l1 l2 => ?_)
    refine k (.ref f) _ h' tk' ⟨⟨m, F', hm⟩, sl, hsl, N', ?_⟩ (h f c' oc vs t ctv _ _ hd hv)
    obtain ⟨a, b, e, eg⟩ := U.split
    have lt : ∀ q ∈ g (tabObj (ps ++ #[rawInt pos.line, rawInt pos.col, .ref c'])) ++ (sl ++ Φ), q.1 < c' := by
      intro q hq
      rw [eg, List.append_assoc, List.cons_append] at hq
      have l1' : ∀ q ∈ a ++ (P, tabObj ps) :: (b ++ (sl ++ Φ)), q.1 < c' := by
        intro q hq
        refine l1 q ?_
        rw [e, List.append_assoc, List.cons_append]; exact hq
      rcases List.mem_append.mp hq with hq | hq
      · exact l1' q (List.mem_append_left _ hq)
      · rcases List.mem_cons.mp hq with rfl | hq
        · exact l1' (P, tabObj ps) (List.mem_append_right _ (.head _))
        · exact l1' q (List.mem_append_right _ (.tail _ hq))
    refine nodup_cons (fun q hq => ?_) (nodup_cons lt (D1 _))
    rcases List.mem_cons.mp hq with rfl | hq
    · exact l2
    · exact Nat.lt_trans (lt q hq) l2
theorem Cw.lam0 {lam c' : Addr} {name qual : Str} {params : Arguments} {body : PySem.Expr} {scope : Scope} {cl : List (Str × Addr)} {pm ctv : Value} {R : Value → Led → Prop} (ml : (lam, kla_obj name qual params body scope cl pm c' ctv) ∈ led) (h : Ca G (.ref lam) [] ρ led R) : Cw G (.ref lam) [] [] ρ led R :=
  fun pos ok Φ s _ E I k x => have ⟨_, _, N, _⟩ := I.N
    callWith_F0 (FnAt.of N (List.mem_append_left _ ml)) (h ok Φ s _ E I k x)
/-- try: return e, and nothing is raised -/
theorem Ss.tryRet {e : PySem.Expr} {h0 : ExceptHandler} {hs : List ExceptHandler} {orelse : List Stmt} {p2 pos : Pos} {rest : List Stmt} {R : Flow → Rho → Led → Prop} (h : ∀ G' : Gx, G'.w = G.w → G'.sc = G.sc → G'.k = G.k → G'.src = G.src → Ex G' e ρ led fun v led1 => R (.ret v) ρ led1) : Ss G (.Try [.Return (some e) p2] (h0 :: hs) orelse [] pos :: rest) ρ led R :=
  .cons fun ok Φ s Q E I k x => wpAny_Try_except (wpAny_execs_cons (wpAny_Return_some (h { G with ex := Option.none } rfl rfl rfl rfl ⟨ok.B, ok.K, ok.T, ok.f, ok.d, ok.u⟩ Φ s _ _ ⟨I.F, I.N⟩ (fun v led1 h1 t1 I1 q => k (.ret v) ρ led1 h1 t1 ⟨I1.F, I1.N⟩ q) fun _ h => (nomatch h))))
end
end
section
open PySem PySem.W PyProof.Rows PySem.Calls PySem.Spec
/-- the body of _law_heard -/
abbrev heardB (np cp rp hp p1 p2 p3 p4 p5 p6 p7 p8 p9 p10 : Pos) (n1 n2 n3 : Nat) : List Stmt :=
  [.Try [.Return (some (.Call (.Name "deed" np) [] [] cp)) rp] [.ExceptHandler (some (.Name "ReadError" hp)) (some "e") [.Return (some (.IfExp (.Compare (.Attribute (.Name "e" p1) "message" p2) [.NotEq] [.Constant (.str "") n1 p3] p4) (.Constant (.str "wrong") n2 p5) (.Constant (.str "silent") n3 p6) p7)) p8] p9] [] [] p10]
theorem Ca.heardE {G : Gx} {ρ : Rho} {led : Led} {f lam c' : Addr} {name2 qual2 : Str} {params2 : Arguments} {body2 : PySem.Expr} {scope scope2 : Scope} {cl2 : List (Str × Addr)} {pm2 ctv2 : Value} {R : Value → Led → Prop}
    {np cp rp hp p1 p2 p3 p4 p5 p6 p7 p8 p9 p10 : Pos} {n1 n2 n3 : Nat}
    (H : FnOk G.w f [.ref lam] scope (heardB np cp rp hp p1 p2 p3 p4 p5 p6 p7 p8 p9 p10 n1 n2 n3) [("deed", .ref lam)])
    (hout : G.outer = []) (hS : G.src = Option.none) (hn : 1 ≤ G.k) (XB : (KF G.w.params).In G.base) (TB : ∃ p loose mean mg mb, Top p loose mean mg mb G.base)
    (hd1 : scope.names.lookup ("deed" : Str) = some .local) (he : scope.names.lookup ("e" : Str) = some .local) (hre : scope.names.lookup ("ReadError" : Str) = some .globalImplicit)
    (ml : (lam, kla_obj name2 qual2 params2 body2 scope2 cl2 pm2 c' ctv2) ∈ led)
    (deed : ∀ G' : Gx, G'.w = G.w → G'.k = G.k - 1 → G'.src = Option.none → G'.ex = some led → Ca1 G' (.ref lam) [] [("deed", .ref lam)] led fun _ _ => False)
    (h : ∀ t, R (.str "wrong" t) led) : Ca G (.ref f) [.ref lam] ρ led R :=
  fun ok Φ s Q E I k x => by
    obtain ⟨w, dp, un, kk, gd, cn, sc, L, a, ccd, cl, outer, base, g0, ex, src0, μ⟩ := G
    have hout : outer = [] := hout
    have hS : src0 = Option.none := hS
    subst hout hS
    obtain ⟨m, F, hm⟩ := I.F
    obtain ⟨sl, hsl, N, D⟩ := I.N
    have hsl : SrcL Option.none sl := hsl
    cases hsl
    obtain ⟨A₀, B⟩ := ok.B
    obtain ⟨p, loose, mean, mg, mb, T⟩ := ok.T
    obtain ⟨p', loose', mean', mg', mb', TB⟩ := TB
    obtain ⟨name, qual, params, dV, kV, doc, pm, an, cdv, ct, oc, od, osl, ho, hcd, hb⟩ := H.it
    have hk := H.kf
    have hd := ok.d
    have hu := ok.u
    have hn : 1 ≤ kk := hn
    have hd : dp + kk < 1000 := hd
    have hu : un + 8 * kk < 9900 := hu
    have hf : sc.kind = .function := ok.f
    refine wpAny_call (code_defSX (K := KF w.params) B F ok.K N T rfl rfl hf ho hcd (by show dp < 1000; omega) (hb s (ok.K.keeps F.keep)) (locs H.loc) (fun g L' h₁ FG F' N' B' X' T' D' => ?_) H.co H.gen hk fun y hy => by simpa using List.all_eq_true.mp H.cell y hy)
    show wpAny _ _ (execs _ (envX qual scope L' f cdv [])) _ _ _
    refine wpAny_execs_cons (wpAny_Try_except (wpAny_execs_cons (wpAny_Return_some (Call_ (nameX_L F' (v := .ref lam) rfl ?_ hk hd1 (by decide)) rfl))))
    refine callWith_F0 (FnAt.of N' (List.mem_append_left _ ml)) ?_
    refine wpAny_mono (deed ⟨w, dp + 1, un + 3, kk - 1, gd, qual, scope, L', f, cdv, [], [envX cn sc L a ccd cl], base, g, some led, Option.none, fun _ => True⟩ rfl rfl rfl rfl ⟨⟨_, B'⟩, X', ⟨p, loose, mean, mg, mb, T'⟩, hk, by show dp + 1 + (kk - 1) < 1000; omega, by show un + 3 + 8 * (kk - 1) < 9900; omega⟩ Φ _ (fun _ _ => False) _ ⟨⟨_, F', trivial, fun q hq => ?_⟩, [], .none, N', D⟩ (fun _ _ _ _ _ h => h) (fun all0 hex e g2 m2 h2 tk2 F2 R2 => ?_)) (fun _ _ h => h.elim) fun _ _ h => h
    · rcases List.mem_cons.mp hq with rfl | hq
      · rfl
      · cases hq
    · cases hex
      refine err_caught (A₀ := ktrTop dp un gd cn sc L a ccd cl []) (outer := [envX cn sc L a ccd cl]) R2 F2 B' XB TB (re_glob _) (re_isx _) (fun h3 g3 tk3 dx od3 oe ws T3 F3 N3 hc hdx hdd hm3 B3 X3 Tp3 => ?_) hk he hre (by decide)
      refine wpAny_execs_cons (wpAny_Return_some (IfExp_ (wpAny_isTrue_Compare1 (Attribute_name (nameX_L F3 (v := .ref e) (by simp) ?_ hk he (by decide))) rfl)))
      refine msg_get F3 X3 N3 (.head _) (.tail _ (.head _)) hc hdx hdd hm3 fun x t hne => ?_
      refine Constant_str (ne_empty hne (wpAny_truthy_bool ((if_pos rfl).mpr (Constant_str ?_))))
      refine name_goes F3 N3 (fun h4 m4 F4 N4 => ?_) hk he
      refine leaveS0_ F4 N4 T3 fun kF kN => ?_
      exact k _ led h4 _ ⟨⟨m, kF, hm⟩, [], .none, fun q hq => kN q (.tail _ (.tail _ hq)), D⟩ (h _)
end
section
open PySem PySem.W PyProof.Rows PySem.Calls PySem.Spec
section
variable {G : Gx} {ρ : Rho} {led : Led}
theorem Gx.Ok.room64 (ok : G.Ok) (hk : 8 ≤ G.k) : G.A.units + 64 < cLine := by have := ok.u; show G.un + 64 < 9900; omega
theorem Cm.patEq {D D' P P' : Addr} {n n' pn pn' : Nat} {t1 t2 u1 u2 : Tok} {r r' : Value} {p : PE} {n₁ n₂ : Led} {R : Bool → Led → Prop} (hk : 8 ≤ G.k) (m1 : (D, pair r (.ref P) n) ∈ led) (m2 : (D', pair r' (.ref P') n') ∈ led) (m3 : (P, pair (.int 2 t1) (.int 3 t2) pn) ∈ led) (m4 : (P', pair (.int 2 u1) (.int 3 u2) pn') ∈ led)
    (dA : DatIn n₁ r p.row) (dB : DatIn n₂ r' p.row) (sa : ∀ q ∈ n₁, q ∈ led) (sb : ∀ q ∈ n₂, q ∈ led) (okp : Ok p) (h : R true led) : Cm G .Eq (.ref D) (.ref D') ρ led R :=
  fun ok Φ s _ E I k z => have ⟨_, _, N, _⟩ := I.N
    pat_eq N (List.mem_append_left _ m1) (List.mem_append_left _ m2) (List.mem_append_left _ m3) (List.mem_append_left _ m4) dA dB (fun q hq => List.mem_append_left _ (sa q hq)) (fun q hq => List.mem_append_left _ (sb q hq)) okp (ok.room64 hk) (k _ led s.heap s.toks I ⟨_, rfl, h⟩)
theorem Cm.fnNe {D D' l l' : Addr} {x : Str} {t t' : Tok} {n n' k k' : Nat} {ys rs : List Value} {ps : List PE} {n₁ n₂ : Led} {R : Bool → Led → Prop} (hk : 8 ≤ G.k) (m1 : (D, pair (.str x t) (.ref l) n) ∈ led) (m2 : (l, listOf ys.toArray k) ∈ led) (m3 : (D', pair (.str x t') (.ref l') n') ∈ led) (m4 : (l', listOf rs.toArray k') ∈ led)
    (dA : DatAll n₁ ys (ps.map PE.row)) (dB : DatAll n₂ rs (ps.map PE.row)) (sa : ∀ q ∈ n₁, q ∈ led) (sb : ∀ q ∈ n₂, q ∈ led) (so : PyData.strOk x = true) (okp : OkAll ps) (h : R false led) : Cm G .NotEq (.ref D) (.ref D') ρ led R :=
  fun ok Φ s _ E I kk z => have ⟨_, _, N, _⟩ := I.N
    fn_ne N (List.mem_append_left _ m1) (List.mem_append_left _ m2) (List.mem_append_left _ m3) (List.mem_append_left _ m4) dA dB (fun q hq => List.mem_append_left _ (sa q hq)) (fun q hq => List.mem_append_left _ (sb q hq)) so okp (ok.room64 hk) (kk _ led s.heap s.toks I ⟨_, rfl, h⟩)
theorem Cm.threeNe {D D' P P' : Addr} {x : Str} {t t' t3 u3 t1 t2 u1 u2 : Tok} {n n' pn pn' : Nat} {R : Bool → Led → Prop} (hk : 8 ≤ G.k) (m1 : (D, (⟨.type "tuple", none, .seq #[.str x t, .ref P, .int 1 t3] n, #[]⟩ : Obj)) ∈ led) (m2 : (D', (⟨.type "tuple", none, .seq #[.str x t', .ref P', .int 1 u3] n', #[]⟩ : Obj)) ∈ led) (m3 : (P, pair (.int 2 t1) (.int 3 t2) pn) ∈ led) (m4 : (P', pair (.int 2 u1) (.int 3 u2) pn') ∈ led)
    (so : PyData.strOk x = true) (h : R false led) : Cm G .NotEq (.ref D) (.ref D') ρ led R :=
  fun ok Φ s _ E I kk z => have ⟨_, _, N, _⟩ := I.N
    three_ne N (List.mem_append_left _ m1) (List.mem_append_left _ m2) (List.mem_append_left _ m3) (List.mem_append_left _ m4) so (ok.room64 hk) (kk _ led s.heap s.toks I ⟨_, rfl, h⟩)
theorem Cm.rhsNe {r r' : Value} {n₁ n₂ : Led} {R : Bool → Led → Prop} (hk : 8 ≤ G.k) (dA : DatIn n₁ r rhsDat) (dB : DatIn n₂ r' rhsDat) (sa : ∀ q ∈ n₁, q ∈ led) (sb : ∀ q ∈ n₂, q ∈ led) (h : R false led) : Cm G .NotEq r r' ρ led R :=
  fun ok Φ s _ E I kk z => have ⟨_, _, N, _⟩ := I.N
    rhs_ne N dA dB (fun q hq => List.mem_append_left _ (sa q hq)) (fun q hq => List.mem_append_left _ (sb q hq)) (ok.room64 hk) (kk _ led s.heap s.toks I ⟨_, rfl, h⟩)
theorem Cm.rowsEq {l l' : Addr} {k k' : Nat} {ys rs : List Value} {ps : List PE} {n₁ n₂ : Led} {R : Bool → Led → Prop} (hk : 8 ≤ G.k) (m2 : (l, listOf ys.toArray k) ∈ led) (m4 : (l', listOf rs.toArray k') ∈ led)
    (dA : DatAll n₁ ys (ps.map PE.row)) (dB : DatAll n₂ rs (ps.map PE.row)) (sa : ∀ q ∈ n₁, q ∈ led) (sb : ∀ q ∈ n₂, q ∈ led) (okp : OkAll ps) (h : R true led) : Cm G .Eq (.ref l) (.ref l') ρ led R :=
  fun ok Φ s _ E I kk z => have ⟨_, _, N, _⟩ := I.N
    rows_eq N (List.mem_append_left _ m2) (List.mem_append_left _ m4) dA dB (fun q hq => List.mem_append_left _ (sa q hq)) (fun q hq => List.mem_append_left _ (sb q hq)) okp (ok.room64 hk) (kk _ led s.heap s.toks I ⟨_, rfl, h⟩)
theorem Ex.andM {e1 e2 : PySem.Expr} {es : List PySem.Expr} {pos : Pos} {R : Value → Led → Prop} (h : Ex G e1 ρ led fun v led1 => ∃ c, v = .bool c ∧ match c with | true => Ex G (.BoolOp .And (e2 :: es) pos) ρ led1 R | false => R (.bool false) led1) : Ex G (.BoolOp .And (e1 :: e2 :: es) pos) ρ led R :=
  fun ok Φ s _ E I k x => BoolOp_and (h ok Φ s _ E I (fun v led1 h1 t1 I1 ⟨c, e, q⟩ => by
    subst e
    refine wpAny_truthy_bool ?_
    cases c with
    | true => exact (if_pos rfl).mpr (q ok Φ _ _ E I1 k x)
    | false => exact (if_neg Bool.false_ne_true).mpr (k _ _ _ _ I1 q)) x)
theorem Ex.and1 {e : PySem.Expr} {pos : Pos} {R : Value → Led → Prop} (h : Ex G e ρ led R) : Ex G (.BoolOp .And [e] pos) ρ led R :=
  fun ok Φ s _ E I k x => BoolOp_one (h ok Φ s _ E I k x)
/-- the rows of patterns, one by one -/
theorem rows_map {w w' : World} {k : Nat} (Ro : RowAll w) (hw : w' = w) (hk : 48 ≤ k) {e : Addr × Obj} : ∀ {vs : List Value} {ps : List PE} {led0 led : Led} {K : List Value → Led → Prop}, PatAllIn led0 vs ps → (∀ p ∈ ps, p.size ≤ 8) → (∀ q ∈ led0, q ∈ led) → e ∈ led → (∀ ys tl, ys.length = vs.length → DatAll (tl ++ led) ys (ps.map PE.row) → K ys (tl ++ led)) → MapC (FRow w' k) e vs led K := by
  intro vs ps led0 led K P
  induction P generalizing led K with
  | nil => exact fun _ _ _ h => h [] [] rfl .nil
  | @cons b p vs ps R _ ih =>
    intro sz sub me h
    have s8 := sz p (.head _)
    refine MapC.cons (FRow.mk (PatIn.rowIn R sub) hw (by omega) (Ro.use R) sub fun r tl sb o => ⟨List.mem_append_right _ me, ?_⟩)
    cases o with
    | mk d =>
    refine ih (fun p hp => sz p (.tail _ hp)) (fun q hq => List.mem_append_right _ (sub q hq)) (List.mem_append_right _ me) fun ys tl2 hl dA => ?_
    rw [← List.append_assoc] at dA ⊢
    refine h (r :: ys) (tl2 ++ tl) (congrArg (· + 1) hl) (.cons (DatIn.mono (fun q hq => ?_) d) dA)
    rw [List.append_assoc]
    exact List.mem_append_right _ (sb q hq)
theorem PatAllIn.lenP {led0 : Led} {vs : List Value} {ps : List PE} (h : PatAllIn led0 vs ps) (hz : ps.length ≤ 9) : vs.length ≤ 100 := by rw [h.len]; omega
end
theorem Ca.heardW {G : Gx} {ρ : Rho} {led : Led} {w : World} {f lam c' : Addr} {name2 qual2 : Str} {params2 : Arguments} {body2 : PySem.Expr} {scope scope2 : Scope} {cl2 : List (Str × Addr)} {pm2 ctv2 : Value} {R : Value → Led → Prop}
    {np cp rp hp p1 p2 p3 p4 p5 p6 p7 p8 p9 p10 : Pos} {n1 n2 n3 : Nat} {led0 : Led} {b0 : Addr} (hno : NoIn led0 b0) (hw : G.w = w)
    (H : FnOk w f [.ref lam] scope (heardB np cp rp hp p1 p2 p3 p4 p5 p6 p7 p8 p9 p10 n1 n2 n3) [("deed", .ref lam)])
    (hout : G.outer = []) (hS : G.src = none) (hn : 1 ≤ G.k) (XB : (KF G.w.params).In G.base) (TB : ∃ p loose mean mg mb, Top p loose mean mg mb G.base)
    (hd1 : scope.names.lookup ("deed" : Str) = some .local) (he : scope.names.lookup ("e" : Str) = some .local) (hre : scope.names.lookup ("ReadError" : Str) = some .globalImplicit)
    (ml : (lam, kla_obj name2 qual2 params2 body2 scope2 cl2 pm2 c' ctv2) ∈ led)
    (deed : ∀ G' : Gx, G'.w = w → G.k - 1 ≤ G'.k → G'.src = none → G'.ex = some led → Ca1 G' (.ref lam) [] [("deed", .ref lam)] led fun _ _ => False)
    (h : ∀ t, R (.str "wrong" t) led) : Ca G (.ref f) [.ref lam] ρ led R := by
  subst hw
  exact Ca.heardE H hout hS hn XB TB hd1 he hre ml (fun G' a b c d => deed G' a (Nat.le_of_eq b.symm) c d) h
theorem Ca.heardOk {G : Gx} {ρ : Rho} {led : Led} {w : World} {f lam : Addr} {scope : Scope} {R : Value → Led → Prop} {np cp rp hp p1 p2 p3 p4 p5 p6 p7 p8 p9 p10 : Pos} {n1 n2 n3 : Nat} (hw : G.w = w)
    (H : FnOk w f [.ref lam] scope (heardB np cp rp hp p1 p2 p3 p4 p5 p6 p7 p8 p9 p10 n1 n2 n3) [("deed", .ref lam)]) (hn : 1 ≤ G.k)
    (h : ∀ G' : Gx, G'.w = w → G'.sc = scope → G.k - 1 ≤ G'.k → G'.src = G.src → Ex G' (.Call (.Name "deed" np) [] [] cp) [("deed", .ref lam)] led R) : Ca G (.ref f) [.ref lam] ρ led R :=
  Ca.inlW hw H hn fun G' e1 e2 e3 e4 e5 e6 => Ss.tryRet fun G'' a b c d => h G'' (a.trans e1) (b.trans e2) (c ▸ e3) (d.trans e4)
theorem Ca.pool {G : Gx} {ρ : Rho} {led : Led} {w : World} {l : Addr} {vs : List Value} {ns : List Int} {t : Tok} {R : Value → Led → Prop} (C : PoolC w) (hw : G.w = w) (hn : 1 ≤ G.k) (hl : G.base.IsList l vs.toArray) (hi : IntsAre vs ns) (hz : vs.length ≤ 63)
    (h : ∀ S x y tx ty k, 0 ≤ x → 0 ≤ y → y < 2147483647 → R (.ref S) ((S, src x tx y ty k) :: led)) : Ca G (.ref 859) [.ref l, .int 0 t] ρ led R := C hw hn hl hi hz h
theorem Ca.rhsRow {G : Gx} {ρ : Rho} {led : Led} {w : World} {a : Addr} {R' : Value → Led → Prop} (Rh : RhsRowC w) (hw : G.w = w) (hn : 12 ≤ G.k) (R : RhsIn led a) (h : ∀ v tl, DatIn (tl ++ led) v rhsDat → R' v (tl ++ led)) : Ca G (.ref 188) [.ref a] ρ led R' :=
  .rd hw hn (Rh.use R) (fun _ h => h) fun v tl sb o => match o with | .mk d => h v tl d
/-- what law's end says -/
def LawR (fl : Flow) (led' : Led) : Prop := retOf fl = .bool true ∧ ∃ ps, (917, tabObj ps) ∈ led'
theorem law_run {G : Gx} {bd : List Stmt} {ρ : Rho} {led : Led} {s : Shared} {Q : Flow → Shared → Prop} {E : Value → Shared → Prop} (walk : Ss G bd ρ led fun fl _ led' => LawR fl led') (ok : G.Ok) (hx : G.ex = none) (hμ : ∀ m, G.μ m) (I : Inv G [] ρ led s.heap) (x : PassesOwn (model prog G.w) G.A G.env E)
    (fin : ∀ fl h' tk' m news, retOf fl = .bool true → Fr G.g G.L h' m → News G.g G.L h' news → GrownAt 917 h' → Q fl { s with heap := h', toks := tk' }) : wpAny (model prog G.w) G.A (execs bd G.env) Q E s :=
  walk ok [] s Q E I (fun fl ρ' led' h' tk' I' r => by
    obtain ⟨m, F, _⟩ := I'.F
    obtain ⟨sl, hsl, N, _⟩ := I'.N
    obtain ⟨r1, ps, r2⟩ := r
    exact fin fl h' tk' m _ r1 F N (GrownAt.of N (List.mem_append_left _ r2))) ⟨⟨x, hμ⟩, fun _ h => by rw [hx] at h; cases h⟩
def LawW (w : World) (sc : Scope) (bd : List Stmt) : Prop := ∀ (G : Gx) (l cL cS : Addr) (vs : List Value) (ns : List Int) (oL oS : Obj), G.w = w → G.sc = sc → G.cl = [(("side" : Str), cS), (("left" : Str), cL)] → G.ccd = .ref 919 → CodeHd G.g 919 917 → G.outer = [] → G.src = none → 600 ≤ G.k →
  (KF G.w.params).In G.base → (∃ p loose mean mg mb, Top p loose mean mg mb G.base) → G.base.IsList l vs.toArray → IntsAre vs ns → vs.length ≤ 63 → oL.data = .cell none → oS.data = .cell none → Ss G bd [("script", .ref l)] [(cS, oS), (cL, oL), (917, tabObj #[])] fun fl _ led' => LawR fl led'
theorem law_run2 {w : World} {sc : Scope} {bd : List Stmt} {gh h₁ : Heap} {L l fa : Addr} {m mg mb : Str → Option Value} {p : Program} {loose : List Str} {mean : ExcName → Option Value} {cn : Str} {cl : List (Str × Addr)} {vs : List Value} {ns : List Int} {oL oS : Obj} {s : Shared} {tk : Nat} {Q : Flow → Shared → Prop} {E : Value → Shared → Prop}
    (X : (KF w.params).In gh) (T : Top p loose mean mg mb gh) (B : Below callerA gh [] gh) (F : Fr gh L h₁ m) (Ll : gh.IsList l vs.toArray) (C : CodeHd gh 919 917) (N : News gh L h₁ [(L + 1 + 1, oS), (L + 1, oL), (917, tabObj #[])]) (I : IntsAre vs ns) (hz : ns.length ≤ 63) (hS : oS.data = .cell none) (hL : oL.data = .cell none) (hm : m "script" = some (.ref l)) (l9 : 917 < L)
    (hk : sc.kind = .function) (hcl : cl = [(("side" : Str), L + 1 + 1), (("left" : Str), L + 1)]) (hx : PassesOwn (model prog w) (callerA.deeper (envX cn sc L fa (.ref 919) cl)) (envX cn sc L fa (.ref 919) cl) E)
    (fin : ∀ fl h' tk' m news, retOf fl = .bool true → Fr gh L h' m → News gh L h' news → GrownAt 917 h' → Q fl { s with heap := h', toks := tk' }) (W : LawW w sc bd) :
    wpAny (model prog w) (callerA.deeper (envX cn sc L fa (.ref 919) cl)) (execs bd (envX cn sc L fa (.ref 919) cl)) Q E { s with heap := h₁, toks := tk } := by
  refine law_run (G := ⟨w, 302, 7, 600, some [], cn, sc, L, fa, .ref 919, cl, [], gh, gh, none, none, fun _ => True⟩) (W _ l (L + 1) (L + 1 + 1) vs ns oL oS rfl rfl hcl rfl C rfl rfl (Nat.le_refl _) X ⟨p, loose, mean, mg, mb, T⟩ Ll I (by rw [intsAre_len I]; exact hz) hL hS) ⟨⟨_, B⟩, X, ⟨p, loose, mean, mg, mb, T⟩, hk, by show 302 + 600 < 1000; decide, by show 7 + 8 * 600 < 9900; decide⟩ rfl (fun _ => trivial) ⟨⟨m, F, trivial, fun q hq => ?_⟩, [], .none, N, ?_⟩ hx fin
  · rcases List.mem_cons.mp hq with rfl | hq
    · exact hm
    · cases hq
  · show [L + 1 + 1, L + 1, 917].Nodup
    have a : L + 1 + 1 ≠ L + 1 := Nat.succ_ne_self _
    have b : L + 1 + 1 ≠ 917 := Nat.ne_of_gt (Nat.lt_succ_of_lt (Nat.lt_succ_of_lt l9))
    have c : L + 1 ≠ 917 := Nat.ne_of_gt (Nat.lt_succ_of_lt l9)
    simp [a, b, c]
end
section
open PySem PySem.W PyProof.Rows PySem.Calls PySem.Spec
local macro_rules | `(tactic| ksk_a2) => `(tactic| first | with_reducible assumption | with_reducible exact List.mem_cons_self | ((with_reducible refine List.mem_append_left _ ?_); with_reducible assumption) | ((with_reducible refine List.mem_cons_of_mem _ ?_); ksk_a2) | ((with_reducible refine List.mem_append_right _ ?_); ksk_a2) | ((with_reducible refine sub_mem (by assumption) ?_); ksk_a2))
local macro_rules | `(tactic| kas_ty) => `(tactic| (refine' FnOk.mk' ?ho ?hcd ?hb ?l ?nd ?co ?gen ?kf ?cell; (case ho => k_is); (case hcd => k_is); (case hb => (intro s X; first | exact BindsTo.of_eq rfl | exact binds_K X rfl (by k_is) rfl rfl rfl)); (case l => kernel_rfl); (case nd => kernel_rfl); (case co => exact rfl); (case gen => exact rfl); (case kf => exact rfl); (case cell => kernel_rfl)))
local macro_rules | `(tactic| ksk_a1) => `(tactic| first | with_reducible exact At.head | ((with_reducible refine' At.tail ?s1); (case s1 => ksk_a1)) | ((with_reducible refine' At.app ?s1); (case s1 => ksk_a1)))
local macro_rules | `(tactic| ki_room) => `(tactic| first | with_reducible exact Split.nil | ((with_reducible refine' Split.cons ?s1); (case s1 => ki_room)) | ((with_reducible refine' Split.app ?s1); (case s1 => ki_room)))
local macro_rules | `(tactic| k_units) => `(tactic| first | with_reducible assumption | exact fun _ h => h | exact List.forall_mem_nil _ | ((with_reducible refine List.forall_mem_cons.mpr ⟨?a, ?b⟩); (case a => ksk_a2); (case b => k_units)) | ((with_reducible refine sub_left ?_); k_units) | ((with_reducible refine sub_tail ?_); k_units) | ((with_reducible refine sub_right ?_); k_units) | (with_reducible refine sub_both ?_ ?_ <;> k_units))
theorem kf_ready : (PySem.Challenge.rw_og0026_01, KF) = (PySem.Challenge.rw_og0026_01, KF) := by
  k_fill
  rfl
theorem Ca.rows {G : Gx} {ρ : Rho} {led : Led} {l : Addr} {vs : List Value} {n : Nat} {R : Value → Led → Prop} (m : (l, listOf vs.toArray n) ∈ led) (hz : vs.length ≤ 100) (hn : 1 ≤ G.k)
    (H : MapC (FRow G.w (G.k - 1)) (l, listOf vs.toArray n) vs led fun ys led' => ∀ D T, R (.ref T) ((T, tpO ys) :: (D, lstO ys) :: led')) : Ca G (.ref 59) [.ref l] ρ led R := by
  refine Ca.inl (binds := [("nodes", .ref l)]) (by kas_ty) hn fun G' hw hs hk e4 e5 e6 => ?_
  rw [← hw, ← hk] at H
  (repeat' (first | ((with_reducible refine' Ex.compR ?z9hxd ?z9he ?z9hclos ?z9hcell ?z9hkind ?z9hnames ?z9hx ?z9hfs ?_); (case z9hxd => kernel_rfl); (case z9he => (intro _; exact ⟨_, rfl⟩)); (case z9hclos => exact rfl); (case z9hcell => kernel_rfl); (case z9hkind => exact rfl); (case z9hnames => kernel_rfl); (case z9hx => kernel_rfl!); (case z9hfs => (intro _ _; exact rfl)); intro m9) | ((with_reducible refine' Ca.tupL ?z9m ?z9hz ?_); (case z9m => ksk_a2); (case z9hz => first | assumption | exact Nat.le_of_ble_eq_true rfl | (simp only [List.length_append, List.length_cons, List.length_nil]; omega) | omega); intro T9) | ((with_reducible refine' Ex.callT ?z9hs ?z9hg ?z9hv ?z9hm ?z9hk ?z9hd ?z9hp ?_); (case z9hs => assumption); (case z9hg => k_is); (case z9hv => (with_reducible exact boot_tuple)); (case z9hm => decide); (case z9hk => kernel_rfl!); (case z9hd => kernel_rfl); (case z9hp => exact rfl)) | ((with_reducible refine' Exs.nil ?_)) | ((with_reducible refine' Exs.cons ?z9hp ?_); (case z9hp => exact rfl)) | ((with_reducible refine' Ex.locX ?z9hs ?z9hv ?z9hn ?_); (case z9hs => assumption); (case z9hv => ksk_a2); (case z9hn => kernel_rfl)) | ((with_reducible refine' Ss.ret ?_))))
  refine ⟨_, _, _, rfl, m, hz, H.mono FRow.mono fun ys led2 e h D => ?_⟩
  have hz' : ys.length ≤ 1000 := by omega
  (repeat' (first | ((with_reducible refine' Ex.compR ?z9hxd ?z9he ?z9hclos ?z9hcell ?z9hkind ?z9hnames ?z9hx ?z9hfs ?_); (case z9hxd => kernel_rfl); (case z9he => (intro _; exact ⟨_, rfl⟩)); (case z9hclos => exact rfl); (case z9hcell => kernel_rfl); (case z9hkind => exact rfl); (case z9hnames => kernel_rfl); (case z9hx => kernel_rfl!); (case z9hfs => (intro _ _; exact rfl)); intro m9) | ((with_reducible refine' Ca.tupL ?z9m ?z9hz ?_); (case z9m => ksk_a2); (case z9hz => first | assumption | exact Nat.le_of_ble_eq_true rfl | (simp only [List.length_append, List.length_cons, List.length_nil]; omega) | omega); intro T9) | ((with_reducible refine' Ex.callT ?z9hs ?z9hg ?z9hv ?z9hm ?z9hk ?z9hd ?z9hp ?_); (case z9hs => assumption); (case z9hg => k_is); (case z9hv => (with_reducible exact boot_tuple)); (case z9hm => decide); (case z9hk => kernel_rfl!); (case z9hd => kernel_rfl); (case z9hp => exact rfl)) | ((with_reducible refine' Exs.nil ?_)) | ((with_reducible refine' Exs.cons ?z9hp ?_); (case z9hp => exact rfl)) | ((with_reducible refine' Ex.locX ?z9hs ?z9hv ?z9hn ?_); (case z9hs => assumption); (case z9hv => ksk_a2); (case z9hn => kernel_rfl)) | ((with_reducible refine' Ss.ret ?_))))
  exact h _ _
theorem metaExc : typeOf (.type "Exception") = pure (.type "type") := by kernel_rfl
theorem Ca.err {G : Gx} {ρ : Rho} {led : Led} {msg : Str} {tm : Tok} {pl : Value} {R : Value → Led → Prop} (hn : 2 ≤ G.k) (h : ∀ e d t t0 h1 h2 t1 t2, R (.ref e) ((d, dictOf [ent h1 "message" t1 (.str msg tm), ent h2 "place" t2 pl] 2) :: (t, tupO [.str msg tm]) :: (e, excO 45 (some d) (.ref t) #[]) :: (t0, tupO [.str msg tm, pl]) :: led)) : Ca G (.ref 45) [.str msg tm, pl] ρ led R := by
  refine' Ca.exc (binds := fun x => [("self", .ref x), ("message", .str msg tm), ("place", pl)]) (mk45 _) ?hi ?hf (Nat.le_of_ble_eq_true rfl) ?H hn ?hb
  case hi => k_is
  case hf => k_is
  case H => (intro x; kas_ty)
  intro G' x t hw hs hk e4 e5 e6
  (repeat' (first | ((with_reducible refine' Gm.typ ?z9ht ?z9hs ?z9e ?z9hh ?_); (case z9ht => exact metaExc); (case z9hs => decide +kernel); (case z9e => k_is); (case z9hh => k_handed)) | ((with_reducible refine' Cw.b0 ?z9hp ?_); (case z9hp => exact rfl)) | ((with_reducible refine' Ca.excInit ?z9hm ?_); (case z9hm => exact mk45 _); intro t9) | ((with_reducible refine' Sa.exc1 ?z9q ?z9hs ?z9ht ?_); (case z9q => exact st45 _); (case z9hs => k_is); (case z9ht => k_is); intro d9 t9) | ((with_reducible refine' Sa.exc2 ?z9q ?z9hs ?z9ht ?z9hl ?z9hx ?_); (case z9q => exact st45 _); (case z9hs => k_is); (case z9ht => k_is); (case z9hl => kernel_rfl); (case z9hx => kernel_rfl); intro t9) | ((with_reducible refine' Ex.blt ?z9hs ?z9e ?z9hv ?z9hn ?z9hk ?z9hd ?_); (case z9hs => assumption); (case z9e => k_is); (case z9hv => boot_fast); (case z9hn => decide); (case z9hk => kernel_rfl!); (case z9hd => kernel_rfl)) | ((with_reducible refine' Exs.locX ?z9hs ?z9hv ?z9hn ?_); (case z9hs => assumption); (case z9hv => ksk_a2); (case z9hn => kernel_rfl)) | ((with_reducible refine' Exs.nil ?_)) | ((with_reducible refine' Ex.locX ?z9hs ?z9hv ?z9hn ?_); (case z9hs => assumption); (case z9hv => ksk_a2); (case z9hn => kernel_rfl)) | ((with_reducible refine' Ss.expr ?z9hw ?_); (case z9hw => (intro _; exact rfl))) | ((with_reducible refine' Ss.setA ?z9hw ?_); (case z9hw => (intro _; exact rfl))) | ((with_reducible refine' Ss.nil ?_)) | ((with_reducible refine' Ex.meth ?z9he ?_); (case z9he => exact rfl))))
  all_goals (refine ⟨rfl, ?_⟩; apply h)
theorem Ca.errX {G : Gx} {ρ : Rho} {led all0 : Led} {msg : Str} {tm : Tok} {pl : Value} (hn : 2 ≤ G.k) (hne : (msg == ("" : Str)) = false) (s0 : ∀ q ∈ all0, q ∈ led) :
    Ca G (.ref 45) [.str msg tm, pl] ρ led fun v led1 => ∃ e a0 dx sl od pre post, v = .ref e ∧ led1 = pre ++ (e, excO 45 (some dx) a0 sl) :: post ∧ (dx, od) ∈ led1 ∧ MsgDict od ∧ ∀ q ∈ all0, q ∈ post :=
  .err hn fun e d t t0 h1 h2 t1 t2 => ⟨e, _, d, _, _, [_, _], _, rfl, rfl, .head _, ⟨_, _, msg, tm, rfl, rfl, hne⟩, fun q hq => .tail _ (s0 q hq)⟩
theorem Ca.node {G : Gx} {ρ : Rho} {led : Led} {x d C : Addr} {v : Value} {R : Value → Led → Prop} (hn : 1 ≤ G.k) (m : (x, instObj C d) ∈ led) (m2 : (d, dictOf [] 0) ∈ led) (hC : setOk (KF G.w.params) C "place" = true)
    (h : ∀ t, ∃ led', At d (dictOf [] 0) (dictOf [⟨PyData.keyHash G.w.params "place", .str "place" t, v⟩] 1) led led' ∧ R .none led') : Ca G (.ref 73) [.ref x, v] ρ led R := by
  refine Ca.inl (binds := [("self", .ref x), ("place", v)]) (by kas_ty) hn ?_
  intro G' e1 e2 e3 e4 e5 e6
  (repeat' (first | ((with_reducible refine' Ex.locX ?z9hs ?z9hv ?z9hn ?_); (case z9hs => assumption); (case z9hv => ksk_a2); (case z9hn => kernel_rfl)) | ((with_reducible refine' Ss.setA ?z9hw ?_); (case z9hw => (intro _; exact rfl)))))
  refine Sa.inst m m2 (by rw [e1]; exact hC) (by kernel_rfl) (by kernel_rfl) (by kernel_rfl) ?_
  intro t
  obtain ⟨led', U, r⟩ := h t
  refine ⟨led', by rw [e1]; exact U, Ss.nil r⟩
theorem mk_var (w : World) : ∀ (v1 : Value), RD w 3 252 [v1] [] (O_var v1) := by
  intro v1 G ρ all R hw hn _ sub hR
  subst hw
  refine Ca.cls (binds := fun x => [("self", .ref x), ("name", v1), ("place", .none)]) (by k_is) (by k_is) (by k_is) (fun x => by kas_ty) (by omega) ?_
  intro G' x d e1 e2 e3 e4 e5 e6
  have hk1 : 1 ≤ G'.k := by omega
  (repeat' (first | ((with_reducible refine' Ca.node ?z9hn ?z9m ?z9m2 ?z9hC ?_); (case z9hn => first | assumption | omega); (case z9m => ksk_a2); (case z9m2 => ksk_a2); (case z9hC => kernel_rfl); intro t9; (refine' ⟨_, ?z9U, ?_⟩); (case z9U => ksk_a1)) | ((with_reducible refine' Sa.inst ?z9m ?z9m2 ?z9hC ?z9hl ?z9hx ?z9hz ?_); (case z9m => ksk_a2); (case z9m2 => ksk_a2); (case z9hC => kernel_rfl); (case z9hl => kernel_rfl); (case z9hx => kernel_rfl); (case z9hz => kernel_rfl); intro t9; (refine' ⟨_, ?z9U, ?_⟩); (case z9U => ksk_a1)) | ((with_reducible refine' Gm.cls ?z9h1 ?z9h2 ?z9h3 ?z9h4 ?_); (case z9h1 => k_is); (case z9h2 => k_is); (case z9h3 => k_is); (case z9h4 => k_is)) | ((with_reducible refine' Cw.f0 ?z9hf ?z9hp ?_); (case z9hf => k_is); (case z9hp => exact rfl)) | ((with_reducible refine' Exs.locX ?z9hs ?z9hv ?z9hn ?_); (case z9hs => assumption); (case z9hv => ksk_a2); (case z9hn => kernel_rfl)) | ((with_reducible refine' Exs.nil ?_)) | ((with_reducible refine' Ex.locX ?z9hs ?z9hv ?z9hn ?_); (case z9hs => assumption); (case z9hv => ksk_a2); (case z9hn => kernel_rfl)) | ((with_reducible refine' Ex.lst ?z9hz ?_); (case z9hz => exact rfl)) | ((with_reducible refine' Ss.expr ?z9hw ?_); (case z9hw => (intro _; exact rfl))) | ((with_reducible refine' Ss.setA ?z9hw ?_); (case z9hw => (intro _; exact rfl))) | ((with_reducible refine' Ss.nil ?_)) | ((with_reducible refine' Ex.meth ?z9he ?_); (case z9he => exact rfl)) | ((with_reducible refine' Ex.gloX ?z9hs ?z9e ?z9hn ?_); (case z9hs => assumption); (case z9e => k_is); (case z9hn => kernel_rfl)) | (with_reducible intro a9)))
  exact ⟨rfl, hR _ [_, _, _] (.mk (.tail _ (.head _)) (.tail _ (.tail _ (.head _))))⟩
theorem mk_con (w : World) : ∀ (v1 : Value), RD w 3 279 [v1] [] (O_con v1) := by
  intro v1 G ρ all R hw hn _ sub hR
  subst hw
  refine Ca.cls (binds := fun x => [("self", .ref x), ("name", v1), ("place", .none)]) (by k_is) (by k_is) (by k_is) (fun x => by kas_ty) (by omega) ?_
  intro G' x d e1 e2 e3 e4 e5 e6
  have hk1 : 1 ≤ G'.k := by omega
  (repeat' (first | ((with_reducible refine' Ca.node ?z9hn ?z9m ?z9m2 ?z9hC ?_); (case z9hn => first | assumption | omega); (case z9m => ksk_a2); (case z9m2 => ksk_a2); (case z9hC => kernel_rfl); intro t9; (refine' ⟨_, ?z9U, ?_⟩); (case z9U => ksk_a1)) | ((with_reducible refine' Sa.inst ?z9m ?z9m2 ?z9hC ?z9hl ?z9hx ?z9hz ?_); (case z9m => ksk_a2); (case z9m2 => ksk_a2); (case z9hC => kernel_rfl); (case z9hl => kernel_rfl); (case z9hx => kernel_rfl); (case z9hz => kernel_rfl); intro t9; (refine' ⟨_, ?z9U, ?_⟩); (case z9U => ksk_a1)) | ((with_reducible refine' Gm.cls ?z9h1 ?z9h2 ?z9h3 ?z9h4 ?_); (case z9h1 => k_is); (case z9h2 => k_is); (case z9h3 => k_is); (case z9h4 => k_is)) | ((with_reducible refine' Cw.f0 ?z9hf ?z9hp ?_); (case z9hf => k_is); (case z9hp => exact rfl)) | ((with_reducible refine' Exs.locX ?z9hs ?z9hv ?z9hn ?_); (case z9hs => assumption); (case z9hv => ksk_a2); (case z9hn => kernel_rfl)) | ((with_reducible refine' Exs.nil ?_)) | ((with_reducible refine' Ex.locX ?z9hs ?z9hv ?z9hn ?_); (case z9hs => assumption); (case z9hv => ksk_a2); (case z9hn => kernel_rfl)) | ((with_reducible refine' Ex.lst ?z9hz ?_); (case z9hz => exact rfl)) | ((with_reducible refine' Ss.expr ?z9hw ?_); (case z9hw => (intro _; exact rfl))) | ((with_reducible refine' Ss.setA ?z9hw ?_); (case z9hw => (intro _; exact rfl))) | ((with_reducible refine' Ss.nil ?_)) | ((with_reducible refine' Ex.meth ?z9he ?_); (case z9he => exact rfl)) | ((with_reducible refine' Ex.gloX ?z9hs ?z9e ?z9hn ?_); (case z9hs => assumption); (case z9e => k_is); (case z9hn => kernel_rfl)) | (with_reducible intro a9)))
  exact ⟨rfl, hR _ [_, _, _] (.mk (.tail _ (.head _)) (.tail _ (.tail _ (.head _))))⟩
theorem mk_lit (w : World) : ∀ (v1 v2 : Value), RD w 3 306 [v1, v2] [] (O_lit v1 v2) := by
  intro v1 v2 G ρ all R hw hn _ sub hR
  subst hw
  refine Ca.cls (binds := fun x => [("self", .ref x), ("kind", v1), ("value", v2), ("place", .none)]) (by k_is) (by k_is) (by k_is) (fun x => by kas_ty) (by omega) ?_
  intro G' x d e1 e2 e3 e4 e5 e6
  have hk1 : 1 ≤ G'.k := by omega
  (repeat' (first | ((with_reducible refine' Ca.node ?z9hn ?z9m ?z9m2 ?z9hC ?_); (case z9hn => first | assumption | omega); (case z9m => ksk_a2); (case z9m2 => ksk_a2); (case z9hC => kernel_rfl); intro t9; (refine' ⟨_, ?z9U, ?_⟩); (case z9U => ksk_a1)) | ((with_reducible refine' Sa.inst ?z9m ?z9m2 ?z9hC ?z9hl ?z9hx ?z9hz ?_); (case z9m => ksk_a2); (case z9m2 => ksk_a2); (case z9hC => kernel_rfl); (case z9hl => kernel_rfl); (case z9hx => kernel_rfl); (case z9hz => kernel_rfl); intro t9; (refine' ⟨_, ?z9U, ?_⟩); (case z9U => ksk_a1)) | ((with_reducible refine' Gm.cls ?z9h1 ?z9h2 ?z9h3 ?z9h4 ?_); (case z9h1 => k_is); (case z9h2 => k_is); (case z9h3 => k_is); (case z9h4 => k_is)) | ((with_reducible refine' Cw.f0 ?z9hf ?z9hp ?_); (case z9hf => k_is); (case z9hp => exact rfl)) | ((with_reducible refine' Exs.locX ?z9hs ?z9hv ?z9hn ?_); (case z9hs => assumption); (case z9hv => ksk_a2); (case z9hn => kernel_rfl)) | ((with_reducible refine' Exs.nil ?_)) | ((with_reducible refine' Ex.locX ?z9hs ?z9hv ?z9hn ?_); (case z9hs => assumption); (case z9hv => ksk_a2); (case z9hn => kernel_rfl)) | ((with_reducible refine' Ex.lst ?z9hz ?_); (case z9hz => exact rfl)) | ((with_reducible refine' Ss.expr ?z9hw ?_); (case z9hw => (intro _; exact rfl))) | ((with_reducible refine' Ss.setA ?z9hw ?_); (case z9hw => (intro _; exact rfl))) | ((with_reducible refine' Ss.nil ?_)) | ((with_reducible refine' Ex.meth ?z9he ?_); (case z9he => exact rfl)) | ((with_reducible refine' Ex.gloX ?z9hs ?z9e ?z9hn ?_); (case z9hs => assumption); (case z9e => k_is); (case z9hn => kernel_rfl)) | (with_reducible intro a9)))
  exact ⟨rfl, hR _ [_, _] (.mk (.head _) (.tail _ (.head _)))⟩
theorem mk_app (w : World) : ∀ (v1 v2 : Value), RD w 3 333 [v1, v2] [] (O_app v1 v2) := by
  intro v1 v2 G ρ all R hw hn _ sub hR
  subst hw
  refine Ca.cls (binds := fun x => [("self", .ref x), ("fun", v1), ("arg", v2), ("place", .none)]) (by k_is) (by k_is) (by k_is) (fun x => by kas_ty) (by omega) ?_
  intro G' x d e1 e2 e3 e4 e5 e6
  have hk1 : 1 ≤ G'.k := by omega
  (repeat' (first | ((with_reducible refine' Ca.node ?z9hn ?z9m ?z9m2 ?z9hC ?_); (case z9hn => first | assumption | omega); (case z9m => ksk_a2); (case z9m2 => ksk_a2); (case z9hC => kernel_rfl); intro t9; (refine' ⟨_, ?z9U, ?_⟩); (case z9U => ksk_a1)) | ((with_reducible refine' Sa.inst ?z9m ?z9m2 ?z9hC ?z9hl ?z9hx ?z9hz ?_); (case z9m => ksk_a2); (case z9m2 => ksk_a2); (case z9hC => kernel_rfl); (case z9hl => kernel_rfl); (case z9hx => kernel_rfl); (case z9hz => kernel_rfl); intro t9; (refine' ⟨_, ?z9U, ?_⟩); (case z9U => ksk_a1)) | ((with_reducible refine' Gm.cls ?z9h1 ?z9h2 ?z9h3 ?z9h4 ?_); (case z9h1 => k_is); (case z9h2 => k_is); (case z9h3 => k_is); (case z9h4 => k_is)) | ((with_reducible refine' Cw.f0 ?z9hf ?z9hp ?_); (case z9hf => k_is); (case z9hp => exact rfl)) | ((with_reducible refine' Exs.locX ?z9hs ?z9hv ?z9hn ?_); (case z9hs => assumption); (case z9hv => ksk_a2); (case z9hn => kernel_rfl)) | ((with_reducible refine' Exs.nil ?_)) | ((with_reducible refine' Ex.locX ?z9hs ?z9hv ?z9hn ?_); (case z9hs => assumption); (case z9hv => ksk_a2); (case z9hn => kernel_rfl)) | ((with_reducible refine' Ex.lst ?z9hz ?_); (case z9hz => exact rfl)) | ((with_reducible refine' Ss.expr ?z9hw ?_); (case z9hw => (intro _; exact rfl))) | ((with_reducible refine' Ss.setA ?z9hw ?_); (case z9hw => (intro _; exact rfl))) | ((with_reducible refine' Ss.nil ?_)) | ((with_reducible refine' Ex.meth ?z9he ?_); (case z9he => exact rfl)) | ((with_reducible refine' Ex.gloX ?z9hs ?z9e ?z9hn ?_); (case z9hs => assumption); (case z9e => k_is); (case z9hn => kernel_rfl)) | (with_reducible intro a9)))
  exact ⟨rfl, hR _ [_, _] (.mk (.head _) (.tail _ (.head _)))⟩
theorem mk_op (w : World) : ∀ (v1 v2 : Value), RD w 3 360 [v1, v2] [] (O_op v1 v2) := by
  intro v1 v2 G ρ all R hw hn _ sub hR
  subst hw
  refine Ca.cls (binds := fun x => [("self", .ref x), ("name", v1), ("is_con", v2), ("place", .none)]) (by k_is) (by k_is) (by k_is) (fun x => by kas_ty) (by omega) ?_
  intro G' x d e1 e2 e3 e4 e5 e6
  have hk1 : 1 ≤ G'.k := by omega
  (repeat' (first | ((with_reducible refine' Ca.node ?z9hn ?z9m ?z9m2 ?z9hC ?_); (case z9hn => first | assumption | omega); (case z9m => ksk_a2); (case z9m2 => ksk_a2); (case z9hC => kernel_rfl); intro t9; (refine' ⟨_, ?z9U, ?_⟩); (case z9U => ksk_a1)) | ((with_reducible refine' Sa.inst ?z9m ?z9m2 ?z9hC ?z9hl ?z9hx ?z9hz ?_); (case z9m => ksk_a2); (case z9m2 => ksk_a2); (case z9hC => kernel_rfl); (case z9hl => kernel_rfl); (case z9hx => kernel_rfl); (case z9hz => kernel_rfl); intro t9; (refine' ⟨_, ?z9U, ?_⟩); (case z9U => ksk_a1)) | ((with_reducible refine' Gm.cls ?z9h1 ?z9h2 ?z9h3 ?z9h4 ?_); (case z9h1 => k_is); (case z9h2 => k_is); (case z9h3 => k_is); (case z9h4 => k_is)) | ((with_reducible refine' Cw.f0 ?z9hf ?z9hp ?_); (case z9hf => k_is); (case z9hp => exact rfl)) | ((with_reducible refine' Exs.locX ?z9hs ?z9hv ?z9hn ?_); (case z9hs => assumption); (case z9hv => ksk_a2); (case z9hn => kernel_rfl)) | ((with_reducible refine' Exs.nil ?_)) | ((with_reducible refine' Ex.locX ?z9hs ?z9hv ?z9hn ?_); (case z9hs => assumption); (case z9hv => ksk_a2); (case z9hn => kernel_rfl)) | ((with_reducible refine' Ex.lst ?z9hz ?_); (case z9hz => exact rfl)) | ((with_reducible refine' Ss.expr ?z9hw ?_); (case z9hw => (intro _; exact rfl))) | ((with_reducible refine' Ss.setA ?z9hw ?_); (case z9hw => (intro _; exact rfl))) | ((with_reducible refine' Ss.nil ?_)) | ((with_reducible refine' Ex.meth ?z9he ?_); (case z9he => exact rfl)) | ((with_reducible refine' Ex.gloX ?z9hs ?z9e ?z9hn ?_); (case z9hs => assumption); (case z9e => k_is); (case z9hn => kernel_rfl)) | (with_reducible intro a9)))
  exact ⟨rfl, hR _ [_, _] (.mk (.head _) (.tail _ (.head _)))⟩
theorem mk_infix (w : World) : ∀ (v1 : Value), RD w 3 387 [v1] [] (O_infix v1) := by
  intro v1 G ρ all R hw hn _ sub hR
  subst hw
  refine Ca.cls (binds := fun x => [("self", .ref x), ("items", v1), ("place", .none)]) (by k_is) (by k_is) (by k_is) (fun x => by kas_ty) (by omega) ?_
  intro G' x d e1 e2 e3 e4 e5 e6
  have hk1 : 1 ≤ G'.k := by omega
  (repeat' (first | ((with_reducible refine' Ca.node ?z9hn ?z9m ?z9m2 ?z9hC ?_); (case z9hn => first | assumption | omega); (case z9m => ksk_a2); (case z9m2 => ksk_a2); (case z9hC => kernel_rfl); intro t9; (refine' ⟨_, ?z9U, ?_⟩); (case z9U => ksk_a1)) | ((with_reducible refine' Sa.inst ?z9m ?z9m2 ?z9hC ?z9hl ?z9hx ?z9hz ?_); (case z9m => ksk_a2); (case z9m2 => ksk_a2); (case z9hC => kernel_rfl); (case z9hl => kernel_rfl); (case z9hx => kernel_rfl); (case z9hz => kernel_rfl); intro t9; (refine' ⟨_, ?z9U, ?_⟩); (case z9U => ksk_a1)) | ((with_reducible refine' Gm.cls ?z9h1 ?z9h2 ?z9h3 ?z9h4 ?_); (case z9h1 => k_is); (case z9h2 => k_is); (case z9h3 => k_is); (case z9h4 => k_is)) | ((with_reducible refine' Cw.f0 ?z9hf ?z9hp ?_); (case z9hf => k_is); (case z9hp => exact rfl)) | ((with_reducible refine' Exs.locX ?z9hs ?z9hv ?z9hn ?_); (case z9hs => assumption); (case z9hv => ksk_a2); (case z9hn => kernel_rfl)) | ((with_reducible refine' Exs.nil ?_)) | ((with_reducible refine' Ex.locX ?z9hs ?z9hv ?z9hn ?_); (case z9hs => assumption); (case z9hv => ksk_a2); (case z9hn => kernel_rfl)) | ((with_reducible refine' Ex.lst ?z9hz ?_); (case z9hz => exact rfl)) | ((with_reducible refine' Ss.expr ?z9hw ?_); (case z9hw => (intro _; exact rfl))) | ((with_reducible refine' Ss.setA ?z9hw ?_); (case z9hw => (intro _; exact rfl))) | ((with_reducible refine' Ss.nil ?_)) | ((with_reducible refine' Ex.meth ?z9he ?_); (case z9he => exact rfl)) | ((with_reducible refine' Ex.gloX ?z9hs ?z9e ?z9hn ?_); (case z9hs => assumption); (case z9e => k_is); (case z9hn => kernel_rfl)) | (with_reducible intro a9)))
  exact ⟨rfl, hR _ [_, _] (.mk (.head _) (.tail _ (.head _)))⟩
theorem mk_infixP (w : World) : ∀ (v1 pl : Value), RD w 3 387 [v1, pl] [] (O_infixP v1 pl) := by
  intro v1 pl G ρ all R hw hn _ sub hR
  subst hw
  refine Ca.cls (binds := fun x => [("self", .ref x), ("items", v1), ("place", pl)]) (by k_is) (by k_is) (by k_is) (fun x => by kas_ty) (by omega) ?_
  intro G' x d e1 e2 e3 e4 e5 e6
  have hk1 : 1 ≤ G'.k := by omega
  (repeat' (first | ((with_reducible refine' Ca.node ?z9hn ?z9m ?z9m2 ?z9hC ?_); (case z9hn => first | assumption | omega); (case z9m => ksk_a2); (case z9m2 => ksk_a2); (case z9hC => kernel_rfl); intro t9; (refine' ⟨_, ?z9U, ?_⟩); (case z9U => ksk_a1)) | ((with_reducible refine' Sa.inst ?z9m ?z9m2 ?z9hC ?z9hl ?z9hx ?z9hz ?_); (case z9m => ksk_a2); (case z9m2 => ksk_a2); (case z9hC => kernel_rfl); (case z9hl => kernel_rfl); (case z9hx => kernel_rfl); (case z9hz => kernel_rfl); intro t9; (refine' ⟨_, ?z9U, ?_⟩); (case z9U => ksk_a1)) | ((with_reducible refine' Gm.cls ?z9h1 ?z9h2 ?z9h3 ?z9h4 ?_); (case z9h1 => k_is); (case z9h2 => k_is); (case z9h3 => k_is); (case z9h4 => k_is)) | ((with_reducible refine' Cw.f0 ?z9hf ?z9hp ?_); (case z9hf => k_is); (case z9hp => exact rfl)) | ((with_reducible refine' Exs.locX ?z9hs ?z9hv ?z9hn ?_); (case z9hs => assumption); (case z9hv => ksk_a2); (case z9hn => kernel_rfl)) | ((with_reducible refine' Exs.nil ?_)) | ((with_reducible refine' Ex.locX ?z9hs ?z9hv ?z9hn ?_); (case z9hs => assumption); (case z9hv => ksk_a2); (case z9hn => kernel_rfl)) | ((with_reducible refine' Ex.lst ?z9hz ?_); (case z9hz => exact rfl)) | ((with_reducible refine' Ss.expr ?z9hw ?_); (case z9hw => (intro _; exact rfl))) | ((with_reducible refine' Ss.setA ?z9hw ?_); (case z9hw => (intro _; exact rfl))) | ((with_reducible refine' Ss.nil ?_)) | ((with_reducible refine' Ex.meth ?z9he ?_); (case z9he => exact rfl)) | ((with_reducible refine' Ex.gloX ?z9hs ?z9e ?z9hn ?_); (case z9hs => assumption); (case z9e => k_is); (case z9hn => kernel_rfl)) | (with_reducible intro a9)))
  exact ⟨rfl, hR _ [_, _] (.mk (.head _) (.tail _ (.head _)))⟩
theorem mk_tup (w : World) : ∀ (v1 : Value), RD w 3 414 [v1] [] (O_tup v1) := by
  intro v1 G ρ all R hw hn _ sub hR
  subst hw
  refine Ca.cls (binds := fun x => [("self", .ref x), ("items", v1), ("place", .none)]) (by k_is) (by k_is) (by k_is) (fun x => by kas_ty) (by omega) ?_
  intro G' x d e1 e2 e3 e4 e5 e6
  have hk1 : 1 ≤ G'.k := by omega
  (repeat' (first | ((with_reducible refine' Ca.node ?z9hn ?z9m ?z9m2 ?z9hC ?_); (case z9hn => first | assumption | omega); (case z9m => ksk_a2); (case z9m2 => ksk_a2); (case z9hC => kernel_rfl); intro t9; (refine' ⟨_, ?z9U, ?_⟩); (case z9U => ksk_a1)) | ((with_reducible refine' Sa.inst ?z9m ?z9m2 ?z9hC ?z9hl ?z9hx ?z9hz ?_); (case z9m => ksk_a2); (case z9m2 => ksk_a2); (case z9hC => kernel_rfl); (case z9hl => kernel_rfl); (case z9hx => kernel_rfl); (case z9hz => kernel_rfl); intro t9; (refine' ⟨_, ?z9U, ?_⟩); (case z9U => ksk_a1)) | ((with_reducible refine' Gm.cls ?z9h1 ?z9h2 ?z9h3 ?z9h4 ?_); (case z9h1 => k_is); (case z9h2 => k_is); (case z9h3 => k_is); (case z9h4 => k_is)) | ((with_reducible refine' Cw.f0 ?z9hf ?z9hp ?_); (case z9hf => k_is); (case z9hp => exact rfl)) | ((with_reducible refine' Exs.locX ?z9hs ?z9hv ?z9hn ?_); (case z9hs => assumption); (case z9hv => ksk_a2); (case z9hn => kernel_rfl)) | ((with_reducible refine' Exs.nil ?_)) | ((with_reducible refine' Ex.locX ?z9hs ?z9hv ?z9hn ?_); (case z9hs => assumption); (case z9hv => ksk_a2); (case z9hn => kernel_rfl)) | ((with_reducible refine' Ex.lst ?z9hz ?_); (case z9hz => exact rfl)) | ((with_reducible refine' Ss.expr ?z9hw ?_); (case z9hw => (intro _; exact rfl))) | ((with_reducible refine' Ss.setA ?z9hw ?_); (case z9hw => (intro _; exact rfl))) | ((with_reducible refine' Ss.nil ?_)) | ((with_reducible refine' Ex.meth ?z9he ?_); (case z9he => exact rfl)) | ((with_reducible refine' Ex.gloX ?z9hs ?z9e ?z9hn ?_); (case z9hs => assumption); (case z9e => k_is); (case z9hn => kernel_rfl)) | (with_reducible intro a9)))
  exact ⟨rfl, hR _ [_, _] (.mk (.head _) (.tail _ (.head _)))⟩
theorem mk_paren (w : World) : ∀ (v1 : Value), RD w 3 468 [v1] [] (O_paren v1) := by
  intro v1 G ρ all R hw hn _ sub hR
  subst hw
  refine Ca.cls (binds := fun x => [("self", .ref x), ("expr", v1), ("place", .none)]) (by k_is) (by k_is) (by k_is) (fun x => by kas_ty) (by omega) ?_
  intro G' x d e1 e2 e3 e4 e5 e6
  have hk1 : 1 ≤ G'.k := by omega
  (repeat' (first | ((with_reducible refine' Ca.node ?z9hn ?z9m ?z9m2 ?z9hC ?_); (case z9hn => first | assumption | omega); (case z9m => ksk_a2); (case z9m2 => ksk_a2); (case z9hC => kernel_rfl); intro t9; (refine' ⟨_, ?z9U, ?_⟩); (case z9U => ksk_a1)) | ((with_reducible refine' Sa.inst ?z9m ?z9m2 ?z9hC ?z9hl ?z9hx ?z9hz ?_); (case z9m => ksk_a2); (case z9m2 => ksk_a2); (case z9hC => kernel_rfl); (case z9hl => kernel_rfl); (case z9hx => kernel_rfl); (case z9hz => kernel_rfl); intro t9; (refine' ⟨_, ?z9U, ?_⟩); (case z9U => ksk_a1)) | ((with_reducible refine' Gm.cls ?z9h1 ?z9h2 ?z9h3 ?z9h4 ?_); (case z9h1 => k_is); (case z9h2 => k_is); (case z9h3 => k_is); (case z9h4 => k_is)) | ((with_reducible refine' Cw.f0 ?z9hf ?z9hp ?_); (case z9hf => k_is); (case z9hp => exact rfl)) | ((with_reducible refine' Exs.locX ?z9hs ?z9hv ?z9hn ?_); (case z9hs => assumption); (case z9hv => ksk_a2); (case z9hn => kernel_rfl)) | ((with_reducible refine' Exs.nil ?_)) | ((with_reducible refine' Ex.locX ?z9hs ?z9hv ?z9hn ?_); (case z9hs => assumption); (case z9hv => ksk_a2); (case z9hn => kernel_rfl)) | ((with_reducible refine' Ex.lst ?z9hz ?_); (case z9hz => exact rfl)) | ((with_reducible refine' Ss.expr ?z9hw ?_); (case z9hw => (intro _; exact rfl))) | ((with_reducible refine' Ss.setA ?z9hw ?_); (case z9hw => (intro _; exact rfl))) | ((with_reducible refine' Ss.nil ?_)) | ((with_reducible refine' Ex.meth ?z9he ?_); (case z9he => exact rfl)) | ((with_reducible refine' Ex.gloX ?z9hs ?z9e ?z9hn ?_); (case z9hs => assumption); (case z9e => k_is); (case z9hn => kernel_rfl)) | (with_reducible intro a9)))
  exact ⟨rfl, hR _ [_, _] (.mk (.head _) (.tail _ (.head _)))⟩
theorem mk_pvar (w : World) : ∀ (v1 pl : Value), RD w 3 495 [v1, pl] [] (O_pvar v1 pl) := by
  intro v1 pl G ρ all R hw hn _ sub hR
  subst hw
  refine Ca.cls (binds := fun x => [("self", .ref x), ("name", v1), ("place", pl)]) (by k_is) (by k_is) (by k_is) (fun x => by kas_ty) (by omega) ?_
  intro G' x d e1 e2 e3 e4 e5 e6
  have hk1 : 1 ≤ G'.k := by omega
  (repeat' (first | ((with_reducible refine' Ca.node ?z9hn ?z9m ?z9m2 ?z9hC ?_); (case z9hn => first | assumption | omega); (case z9m => ksk_a2); (case z9m2 => ksk_a2); (case z9hC => kernel_rfl); intro t9; (refine' ⟨_, ?z9U, ?_⟩); (case z9U => ksk_a1)) | ((with_reducible refine' Sa.inst ?z9m ?z9m2 ?z9hC ?z9hl ?z9hx ?z9hz ?_); (case z9m => ksk_a2); (case z9m2 => ksk_a2); (case z9hC => kernel_rfl); (case z9hl => kernel_rfl); (case z9hx => kernel_rfl); (case z9hz => kernel_rfl); intro t9; (refine' ⟨_, ?z9U, ?_⟩); (case z9U => ksk_a1)) | ((with_reducible refine' Gm.cls ?z9h1 ?z9h2 ?z9h3 ?z9h4 ?_); (case z9h1 => k_is); (case z9h2 => k_is); (case z9h3 => k_is); (case z9h4 => k_is)) | ((with_reducible refine' Cw.f0 ?z9hf ?z9hp ?_); (case z9hf => k_is); (case z9hp => exact rfl)) | ((with_reducible refine' Exs.locX ?z9hs ?z9hv ?z9hn ?_); (case z9hs => assumption); (case z9hv => ksk_a2); (case z9hn => kernel_rfl)) | ((with_reducible refine' Exs.nil ?_)) | ((with_reducible refine' Ex.locX ?z9hs ?z9hv ?z9hn ?_); (case z9hs => assumption); (case z9hv => ksk_a2); (case z9hn => kernel_rfl)) | ((with_reducible refine' Ex.lst ?z9hz ?_); (case z9hz => exact rfl)) | ((with_reducible refine' Ss.expr ?z9hw ?_); (case z9hw => (intro _; exact rfl))) | ((with_reducible refine' Ss.setA ?z9hw ?_); (case z9hw => (intro _; exact rfl))) | ((with_reducible refine' Ss.nil ?_)) | ((with_reducible refine' Ex.meth ?z9he ?_); (case z9he => exact rfl)) | ((with_reducible refine' Ex.gloX ?z9hs ?z9e ?z9hn ?_); (case z9hs => assumption); (case z9e => k_is); (case z9hn => kernel_rfl)) | (with_reducible intro a9)))
  exact ⟨rfl, hR _ [_, _] (.mk (.head _) (.tail _ (.head _)))⟩
theorem mk_plit (w : World) : ∀ (v1 v2 pl : Value), RD w 3 549 [v1, v2, pl] [] (O_plit v1 v2 pl) := by
  intro v1 v2 pl G ρ all R hw hn _ sub hR
  subst hw
  refine Ca.cls (binds := fun x => [("self", .ref x), ("kind", v1), ("value", v2), ("place", pl)]) (by k_is) (by k_is) (by k_is) (fun x => by kas_ty) (by omega) ?_
  intro G' x d e1 e2 e3 e4 e5 e6
  have hk1 : 1 ≤ G'.k := by omega
  (repeat' (first | ((with_reducible refine' Ca.node ?z9hn ?z9m ?z9m2 ?z9hC ?_); (case z9hn => first | assumption | omega); (case z9m => ksk_a2); (case z9m2 => ksk_a2); (case z9hC => kernel_rfl); intro t9; (refine' ⟨_, ?z9U, ?_⟩); (case z9U => ksk_a1)) | ((with_reducible refine' Sa.inst ?z9m ?z9m2 ?z9hC ?z9hl ?z9hx ?z9hz ?_); (case z9m => ksk_a2); (case z9m2 => ksk_a2); (case z9hC => kernel_rfl); (case z9hl => kernel_rfl); (case z9hx => kernel_rfl); (case z9hz => kernel_rfl); intro t9; (refine' ⟨_, ?z9U, ?_⟩); (case z9U => ksk_a1)) | ((with_reducible refine' Gm.cls ?z9h1 ?z9h2 ?z9h3 ?z9h4 ?_); (case z9h1 => k_is); (case z9h2 => k_is); (case z9h3 => k_is); (case z9h4 => k_is)) | ((with_reducible refine' Cw.f0 ?z9hf ?z9hp ?_); (case z9hf => k_is); (case z9hp => exact rfl)) | ((with_reducible refine' Exs.locX ?z9hs ?z9hv ?z9hn ?_); (case z9hs => assumption); (case z9hv => ksk_a2); (case z9hn => kernel_rfl)) | ((with_reducible refine' Exs.nil ?_)) | ((with_reducible refine' Ex.locX ?z9hs ?z9hv ?z9hn ?_); (case z9hs => assumption); (case z9hv => ksk_a2); (case z9hn => kernel_rfl)) | ((with_reducible refine' Ex.lst ?z9hz ?_); (case z9hz => exact rfl)) | ((with_reducible refine' Ss.expr ?z9hw ?_); (case z9hw => (intro _; exact rfl))) | ((with_reducible refine' Ss.setA ?z9hw ?_); (case z9hw => (intro _; exact rfl))) | ((with_reducible refine' Ss.nil ?_)) | ((with_reducible refine' Ex.meth ?z9he ?_); (case z9he => exact rfl)) | ((with_reducible refine' Ex.gloX ?z9hs ?z9e ?z9hn ?_); (case z9hs => assumption); (case z9e => k_is); (case z9hn => kernel_rfl)) | (with_reducible intro a9)))
  exact ⟨rfl, hR _ [_, _] (.mk (.head _) (.tail _ (.head _)))⟩
theorem mk_pcon (w : World) : ∀ (v1 v2 pl : Value), RD w 3 576 [v1, v2, pl] [] (O_pcon v1 v2 pl) := by
  intro v1 v2 pl G ρ all R hw hn _ sub hR
  subst hw
  refine Ca.cls (binds := fun x => [("self", .ref x), ("name", v1), ("args", v2), ("place", pl)]) (by k_is) (by k_is) (by k_is) (fun x => by kas_ty) (by omega) ?_
  intro G' x d e1 e2 e3 e4 e5 e6
  have hk1 : 1 ≤ G'.k := by omega
  (repeat' (first | ((with_reducible refine' Ca.node ?z9hn ?z9m ?z9m2 ?z9hC ?_); (case z9hn => first | assumption | omega); (case z9m => ksk_a2); (case z9m2 => ksk_a2); (case z9hC => kernel_rfl); intro t9; (refine' ⟨_, ?z9U, ?_⟩); (case z9U => ksk_a1)) | ((with_reducible refine' Sa.inst ?z9m ?z9m2 ?z9hC ?z9hl ?z9hx ?z9hz ?_); (case z9m => ksk_a2); (case z9m2 => ksk_a2); (case z9hC => kernel_rfl); (case z9hl => kernel_rfl); (case z9hx => kernel_rfl); (case z9hz => kernel_rfl); intro t9; (refine' ⟨_, ?z9U, ?_⟩); (case z9U => ksk_a1)) | ((with_reducible refine' Gm.cls ?z9h1 ?z9h2 ?z9h3 ?z9h4 ?_); (case z9h1 => k_is); (case z9h2 => k_is); (case z9h3 => k_is); (case z9h4 => k_is)) | ((with_reducible refine' Cw.f0 ?z9hf ?z9hp ?_); (case z9hf => k_is); (case z9hp => exact rfl)) | ((with_reducible refine' Exs.locX ?z9hs ?z9hv ?z9hn ?_); (case z9hs => assumption); (case z9hv => ksk_a2); (case z9hn => kernel_rfl)) | ((with_reducible refine' Exs.nil ?_)) | ((with_reducible refine' Ex.locX ?z9hs ?z9hv ?z9hn ?_); (case z9hs => assumption); (case z9hv => ksk_a2); (case z9hn => kernel_rfl)) | ((with_reducible refine' Ex.lst ?z9hz ?_); (case z9hz => exact rfl)) | ((with_reducible refine' Ss.expr ?z9hw ?_); (case z9hw => (intro _; exact rfl))) | ((with_reducible refine' Ss.setA ?z9hw ?_); (case z9hw => (intro _; exact rfl))) | ((with_reducible refine' Ss.nil ?_)) | ((with_reducible refine' Ex.meth ?z9he ?_); (case z9he => exact rfl)) | ((with_reducible refine' Ex.gloX ?z9hs ?z9e ?z9hn ?_); (case z9hs => assumption); (case z9e => k_is); (case z9hn => kernel_rfl)) | (with_reducible intro a9)))
  exact ⟨rfl, hR _ [_, _] (.mk (.head _) (.tail _ (.head _)))⟩
theorem mk_pparen (w : World) : ∀ (v1 pl : Value), RD w 3 765 [v1, pl] [] (O_pparen v1 pl) := by
  intro v1 pl G ρ all R hw hn _ sub hR
  subst hw
  refine Ca.cls (binds := fun x => [("self", .ref x), ("pattern", v1), ("place", pl)]) (by k_is) (by k_is) (by k_is) (fun x => by kas_ty) (by omega) ?_
  intro G' x d e1 e2 e3 e4 e5 e6
  have hk1 : 1 ≤ G'.k := by omega
  (repeat' (first | ((with_reducible refine' Ca.node ?z9hn ?z9m ?z9m2 ?z9hC ?_); (case z9hn => first | assumption | omega); (case z9m => ksk_a2); (case z9m2 => ksk_a2); (case z9hC => kernel_rfl); intro t9; (refine' ⟨_, ?z9U, ?_⟩); (case z9U => ksk_a1)) | ((with_reducible refine' Sa.inst ?z9m ?z9m2 ?z9hC ?z9hl ?z9hx ?z9hz ?_); (case z9m => ksk_a2); (case z9m2 => ksk_a2); (case z9hC => kernel_rfl); (case z9hl => kernel_rfl); (case z9hx => kernel_rfl); (case z9hz => kernel_rfl); intro t9; (refine' ⟨_, ?z9U, ?_⟩); (case z9U => ksk_a1)) | ((with_reducible refine' Gm.cls ?z9h1 ?z9h2 ?z9h3 ?z9h4 ?_); (case z9h1 => k_is); (case z9h2 => k_is); (case z9h3 => k_is); (case z9h4 => k_is)) | ((with_reducible refine' Cw.f0 ?z9hf ?z9hp ?_); (case z9hf => k_is); (case z9hp => exact rfl)) | ((with_reducible refine' Exs.locX ?z9hs ?z9hv ?z9hn ?_); (case z9hs => assumption); (case z9hv => ksk_a2); (case z9hn => kernel_rfl)) | ((with_reducible refine' Exs.nil ?_)) | ((with_reducible refine' Ex.locX ?z9hs ?z9hv ?z9hn ?_); (case z9hs => assumption); (case z9hv => ksk_a2); (case z9hn => kernel_rfl)) | ((with_reducible refine' Ex.lst ?z9hz ?_); (case z9hz => exact rfl)) | ((with_reducible refine' Ss.expr ?z9hw ?_); (case z9hw => (intro _; exact rfl))) | ((with_reducible refine' Ss.setA ?z9hw ?_); (case z9hw => (intro _; exact rfl))) | ((with_reducible refine' Ss.nil ?_)) | ((with_reducible refine' Ex.meth ?z9he ?_); (case z9he => exact rfl)) | ((with_reducible refine' Ex.gloX ?z9hs ?z9e ?z9hn ?_); (case z9hs => assumption); (case z9e => k_is); (case z9hn => kernel_rfl)) | (with_reducible intro a9)))
  exact ⟨rfl, hR _ [_, _] (.mk (.head _) (.tail _ (.head _)))⟩
theorem mk_ptup (w : World) : ∀ (v1 pl : Value), RD w 3 603 [v1, pl] [] (O_ptup v1 pl) := by
  intro v1 pl G ρ all R hw hn _ sub hR
  subst hw
  refine Ca.cls (binds := fun x => [("self", .ref x), ("items", v1), ("place", pl)]) (by k_is) (by k_is) (by k_is) (fun x => by kas_ty) (by omega) ?_
  intro G' x d e1 e2 e3 e4 e5 e6
  have hk1 : 1 ≤ G'.k := by omega
  (repeat' (first | ((with_reducible refine' Ca.node ?z9hn ?z9m ?z9m2 ?z9hC ?_); (case z9hn => first | assumption | omega); (case z9m => ksk_a2); (case z9m2 => ksk_a2); (case z9hC => kernel_rfl); intro t9; (refine' ⟨_, ?z9U, ?_⟩); (case z9U => ksk_a1)) | ((with_reducible refine' Sa.inst ?z9m ?z9m2 ?z9hC ?z9hl ?z9hx ?z9hz ?_); (case z9m => ksk_a2); (case z9m2 => ksk_a2); (case z9hC => kernel_rfl); (case z9hl => kernel_rfl); (case z9hx => kernel_rfl); (case z9hz => kernel_rfl); intro t9; (refine' ⟨_, ?z9U, ?_⟩); (case z9U => ksk_a1)) | ((with_reducible refine' Gm.cls ?z9h1 ?z9h2 ?z9h3 ?z9h4 ?_); (case z9h1 => k_is); (case z9h2 => k_is); (case z9h3 => k_is); (case z9h4 => k_is)) | ((with_reducible refine' Cw.f0 ?z9hf ?z9hp ?_); (case z9hf => k_is); (case z9hp => exact rfl)) | ((with_reducible refine' Exs.locX ?z9hs ?z9hv ?z9hn ?_); (case z9hs => assumption); (case z9hv => ksk_a2); (case z9hn => kernel_rfl)) | ((with_reducible refine' Exs.nil ?_)) | ((with_reducible refine' Ex.locX ?z9hs ?z9hv ?z9hn ?_); (case z9hs => assumption); (case z9hv => ksk_a2); (case z9hn => kernel_rfl)) | ((with_reducible refine' Ex.lst ?z9hz ?_); (case z9hz => exact rfl)) | ((with_reducible refine' Ss.expr ?z9hw ?_); (case z9hw => (intro _; exact rfl))) | ((with_reducible refine' Ss.setA ?z9hw ?_); (case z9hw => (intro _; exact rfl))) | ((with_reducible refine' Ss.nil ?_)) | ((with_reducible refine' Ex.meth ?z9he ?_); (case z9he => exact rfl)) | ((with_reducible refine' Ex.gloX ?z9hs ?z9e ?z9hn ?_); (case z9hs => assumption); (case z9e => k_is); (case z9hn => kernel_rfl)) | (with_reducible intro a9)))
  exact ⟨rfl, hR _ [_, _] (.mk (.head _) (.tail _ (.head _)))⟩
theorem mk_pinfix (w : World) : ∀ (v1 pl : Value), RD w 3 738 [v1, pl] [] (O_pinfix v1 pl) := by
  intro v1 pl G ρ all R hw hn _ sub hR
  subst hw
  refine Ca.cls (binds := fun x => [("self", .ref x), ("items", v1), ("place", pl)]) (by k_is) (by k_is) (by k_is) (fun x => by kas_ty) (by omega) ?_
  intro G' x d e1 e2 e3 e4 e5 e6
  have hk1 : 1 ≤ G'.k := by omega
  (repeat' (first | ((with_reducible refine' Ca.node ?z9hn ?z9m ?z9m2 ?z9hC ?_); (case z9hn => first | assumption | omega); (case z9m => ksk_a2); (case z9m2 => ksk_a2); (case z9hC => kernel_rfl); intro t9; (refine' ⟨_, ?z9U, ?_⟩); (case z9U => ksk_a1)) | ((with_reducible refine' Sa.inst ?z9m ?z9m2 ?z9hC ?z9hl ?z9hx ?z9hz ?_); (case z9m => ksk_a2); (case z9m2 => ksk_a2); (case z9hC => kernel_rfl); (case z9hl => kernel_rfl); (case z9hx => kernel_rfl); (case z9hz => kernel_rfl); intro t9; (refine' ⟨_, ?z9U, ?_⟩); (case z9U => ksk_a1)) | ((with_reducible refine' Gm.cls ?z9h1 ?z9h2 ?z9h3 ?z9h4 ?_); (case z9h1 => k_is); (case z9h2 => k_is); (case z9h3 => k_is); (case z9h4 => k_is)) | ((with_reducible refine' Cw.f0 ?z9hf ?z9hp ?_); (case z9hf => k_is); (case z9hp => exact rfl)) | ((with_reducible refine' Exs.locX ?z9hs ?z9hv ?z9hn ?_); (case z9hs => assumption); (case z9hv => ksk_a2); (case z9hn => kernel_rfl)) | ((with_reducible refine' Exs.nil ?_)) | ((with_reducible refine' Ex.locX ?z9hs ?z9hv ?z9hn ?_); (case z9hs => assumption); (case z9hv => ksk_a2); (case z9hn => kernel_rfl)) | ((with_reducible refine' Ex.lst ?z9hz ?_); (case z9hz => exact rfl)) | ((with_reducible refine' Ss.expr ?z9hw ?_); (case z9hw => (intro _; exact rfl))) | ((with_reducible refine' Ss.setA ?z9hw ?_); (case z9hw => (intro _; exact rfl))) | ((with_reducible refine' Ss.nil ?_)) | ((with_reducible refine' Ex.meth ?z9he ?_); (case z9he => exact rfl)) | ((with_reducible refine' Ex.gloX ?z9hs ?z9e ?z9hn ?_); (case z9hs => assumption); (case z9e => k_is); (case z9hn => kernel_rfl)) | (with_reducible intro a9)))
  exact ⟨rfl, hR _ [_, _] (.mk (.head _) (.tail _ (.head _)))⟩
theorem mk_funbind (w : World) : ∀ (v1 v2 pl : Value), RD w 3 112 [v1, v2, pl] [] (O_funbind v1 v2 pl) := by
  intro v1 v2 pl G ρ all R hw hn _ sub hR
  subst hw
  refine Ca.cls (binds := fun x => [("self", .ref x), ("name", v1), ("clauses", v2), ("place", pl)]) (by k_is) (by k_is) (by k_is) (fun x => by kas_ty) (by omega) ?_
  intro G' x d e1 e2 e3 e4 e5 e6
  have hk1 : 1 ≤ G'.k := by omega
  (repeat' (first | ((with_reducible refine' Ca.node ?z9hn ?z9m ?z9m2 ?z9hC ?_); (case z9hn => first | assumption | omega); (case z9m => ksk_a2); (case z9m2 => ksk_a2); (case z9hC => kernel_rfl); intro t9; (refine' ⟨_, ?z9U, ?_⟩); (case z9U => ksk_a1)) | ((with_reducible refine' Sa.inst ?z9m ?z9m2 ?z9hC ?z9hl ?z9hx ?z9hz ?_); (case z9m => ksk_a2); (case z9m2 => ksk_a2); (case z9hC => kernel_rfl); (case z9hl => kernel_rfl); (case z9hx => kernel_rfl); (case z9hz => kernel_rfl); intro t9; (refine' ⟨_, ?z9U, ?_⟩); (case z9U => ksk_a1)) | ((with_reducible refine' Gm.cls ?z9h1 ?z9h2 ?z9h3 ?z9h4 ?_); (case z9h1 => k_is); (case z9h2 => k_is); (case z9h3 => k_is); (case z9h4 => k_is)) | ((with_reducible refine' Cw.f0 ?z9hf ?z9hp ?_); (case z9hf => k_is); (case z9hp => exact rfl)) | ((with_reducible refine' Exs.locX ?z9hs ?z9hv ?z9hn ?_); (case z9hs => assumption); (case z9hv => ksk_a2); (case z9hn => kernel_rfl)) | ((with_reducible refine' Exs.nil ?_)) | ((with_reducible refine' Ex.locX ?z9hs ?z9hv ?z9hn ?_); (case z9hs => assumption); (case z9hv => ksk_a2); (case z9hn => kernel_rfl)) | ((with_reducible refine' Ex.lst ?z9hz ?_); (case z9hz => exact rfl)) | ((with_reducible refine' Ss.expr ?z9hw ?_); (case z9hw => (intro _; exact rfl))) | ((with_reducible refine' Ss.setA ?z9hw ?_); (case z9hw => (intro _; exact rfl))) | ((with_reducible refine' Ss.nil ?_)) | ((with_reducible refine' Ex.meth ?z9he ?_); (case z9he => exact rfl)) | ((with_reducible refine' Ex.gloX ?z9hs ?z9e ?z9hn ?_); (case z9hs => assumption); (case z9e => k_is); (case z9hn => kernel_rfl)) | (with_reducible intro a9)))
  exact ⟨rfl, hR _ [_, _, _] (.mk (.tail _ (.head _)) (.tail _ (.tail _ (.head _))))⟩
theorem mk_clause (w : World) : ∀ (v1 v2 pl : Value), RD w 3 139 [v1, v2, pl] [] (O_clause v1 v2 pl) := by
  intro v1 v2 pl G ρ all R hw hn _ sub hR
  subst hw
  refine Ca.cls (binds := fun x => [("self", .ref x), ("patterns", v1), ("rhs", v2), ("place", pl)]) (by k_is) (by k_is) (by k_is) (fun x => by kas_ty) (by omega) ?_
  intro G' x d e1 e2 e3 e4 e5 e6
  have hk1 : 1 ≤ G'.k := by omega
  (repeat' (first | ((with_reducible refine' Ca.node ?z9hn ?z9m ?z9m2 ?z9hC ?_); (case z9hn => first | assumption | omega); (case z9m => ksk_a2); (case z9m2 => ksk_a2); (case z9hC => kernel_rfl); intro t9; (refine' ⟨_, ?z9U, ?_⟩); (case z9U => ksk_a1)) | ((with_reducible refine' Sa.inst ?z9m ?z9m2 ?z9hC ?z9hl ?z9hx ?z9hz ?_); (case z9m => ksk_a2); (case z9m2 => ksk_a2); (case z9hC => kernel_rfl); (case z9hl => kernel_rfl); (case z9hx => kernel_rfl); (case z9hz => kernel_rfl); intro t9; (refine' ⟨_, ?z9U, ?_⟩); (case z9U => ksk_a1)) | ((with_reducible refine' Gm.cls ?z9h1 ?z9h2 ?z9h3 ?z9h4 ?_); (case z9h1 => k_is); (case z9h2 => k_is); (case z9h3 => k_is); (case z9h4 => k_is)) | ((with_reducible refine' Cw.f0 ?z9hf ?z9hp ?_); (case z9hf => k_is); (case z9hp => exact rfl)) | ((with_reducible refine' Exs.locX ?z9hs ?z9hv ?z9hn ?_); (case z9hs => assumption); (case z9hv => ksk_a2); (case z9hn => kernel_rfl)) | ((with_reducible refine' Exs.nil ?_)) | ((with_reducible refine' Ex.locX ?z9hs ?z9hv ?z9hn ?_); (case z9hs => assumption); (case z9hv => ksk_a2); (case z9hn => kernel_rfl)) | ((with_reducible refine' Ex.lst ?z9hz ?_); (case z9hz => exact rfl)) | ((with_reducible refine' Ss.expr ?z9hw ?_); (case z9hw => (intro _; exact rfl))) | ((with_reducible refine' Ss.setA ?z9hw ?_); (case z9hw => (intro _; exact rfl))) | ((with_reducible refine' Ss.nil ?_)) | ((with_reducible refine' Ex.meth ?z9he ?_); (case z9he => exact rfl)) | ((with_reducible refine' Ex.gloX ?z9hs ?z9e ?z9hn ?_); (case z9hs => assumption); (case z9e => k_is); (case z9hn => kernel_rfl)) | (with_reducible intro a9)))
  exact ⟨rfl, hR _ [_, _] (.mk (.head _) (.tail _ (.head _)))⟩
theorem mk_patbind (w : World) : ∀ (v1 v2 pl : Value), RD w 3 166 [v1, v2, pl] [] (O_patbind v1 v2 pl) := by
  intro v1 v2 pl G ρ all R hw hn _ sub hR
  subst hw
  refine Ca.cls (binds := fun x => [("self", .ref x), ("pattern", v1), ("rhs", v2), ("place", pl)]) (by k_is) (by k_is) (by k_is) (fun x => by kas_ty) (by omega) ?_
  intro G' x d e1 e2 e3 e4 e5 e6
  have hk1 : 1 ≤ G'.k := by omega
  (repeat' (first | ((with_reducible refine' Ca.node ?z9hn ?z9m ?z9m2 ?z9hC ?_); (case z9hn => first | assumption | omega); (case z9m => ksk_a2); (case z9m2 => ksk_a2); (case z9hC => kernel_rfl); intro t9; (refine' ⟨_, ?z9U, ?_⟩); (case z9U => ksk_a1)) | ((with_reducible refine' Sa.inst ?z9m ?z9m2 ?z9hC ?z9hl ?z9hx ?z9hz ?_); (case z9m => ksk_a2); (case z9m2 => ksk_a2); (case z9hC => kernel_rfl); (case z9hl => kernel_rfl); (case z9hx => kernel_rfl); (case z9hz => kernel_rfl); intro t9; (refine' ⟨_, ?z9U, ?_⟩); (case z9U => ksk_a1)) | ((with_reducible refine' Gm.cls ?z9h1 ?z9h2 ?z9h3 ?z9h4 ?_); (case z9h1 => k_is); (case z9h2 => k_is); (case z9h3 => k_is); (case z9h4 => k_is)) | ((with_reducible refine' Cw.f0 ?z9hf ?z9hp ?_); (case z9hf => k_is); (case z9hp => exact rfl)) | ((with_reducible refine' Exs.locX ?z9hs ?z9hv ?z9hn ?_); (case z9hs => assumption); (case z9hv => ksk_a2); (case z9hn => kernel_rfl)) | ((with_reducible refine' Exs.nil ?_)) | ((with_reducible refine' Ex.locX ?z9hs ?z9hv ?z9hn ?_); (case z9hs => assumption); (case z9hv => ksk_a2); (case z9hn => kernel_rfl)) | ((with_reducible refine' Ex.lst ?z9hz ?_); (case z9hz => exact rfl)) | ((with_reducible refine' Ss.expr ?z9hw ?_); (case z9hw => (intro _; exact rfl))) | ((with_reducible refine' Ss.setA ?z9hw ?_); (case z9hw => (intro _; exact rfl))) | ((with_reducible refine' Ss.nil ?_)) | ((with_reducible refine' Ex.meth ?z9he ?_); (case z9he => exact rfl)) | ((with_reducible refine' Ex.gloX ?z9hs ?z9e ?z9hn ?_); (case z9hs => assumption); (case z9e => k_is); (case z9hn => kernel_rfl)) | (with_reducible intro a9)))
  exact ⟨rfl, hR _ [_, _, _] (.mk (.tail _ (.head _)) (.tail _ (.tail _ (.head _))))⟩
theorem mk_rhs (w : World) : ∀ (v1 v2 : Value), RD w 3 191 [v1, v2] [] (O_rhs v1 v2) := by
  intro v1 v2 G ρ all R hw hn _ sub hR
  subst hw
  refine Ca.cls (binds := fun x => [("self", .ref x), ("guarded", v1), ("where", v2), ("place", .none)]) (by k_is) (by k_is) (by k_is) (fun x => by kas_ty) (by omega) ?_
  intro G' x d e1 e2 e3 e4 e5 e6
  have hk1 : 1 ≤ G'.k := by omega
  (repeat' (first | ((with_reducible refine' Ca.node ?z9hn ?z9m ?z9m2 ?z9hC ?_); (case z9hn => first | assumption | omega); (case z9m => ksk_a2); (case z9m2 => ksk_a2); (case z9hC => kernel_rfl); intro t9; (refine' ⟨_, ?z9U, ?_⟩); (case z9U => ksk_a1)) | ((with_reducible refine' Sa.inst ?z9m ?z9m2 ?z9hC ?z9hl ?z9hx ?z9hz ?_); (case z9m => ksk_a2); (case z9m2 => ksk_a2); (case z9hC => kernel_rfl); (case z9hl => kernel_rfl); (case z9hx => kernel_rfl); (case z9hz => kernel_rfl); intro t9; (refine' ⟨_, ?z9U, ?_⟩); (case z9U => ksk_a1)) | ((with_reducible refine' Gm.cls ?z9h1 ?z9h2 ?z9h3 ?z9h4 ?_); (case z9h1 => k_is); (case z9h2 => k_is); (case z9h3 => k_is); (case z9h4 => k_is)) | ((with_reducible refine' Cw.f0 ?z9hf ?z9hp ?_); (case z9hf => k_is); (case z9hp => exact rfl)) | ((with_reducible refine' Exs.locX ?z9hs ?z9hv ?z9hn ?_); (case z9hs => assumption); (case z9hv => ksk_a2); (case z9hn => kernel_rfl)) | ((with_reducible refine' Exs.nil ?_)) | ((with_reducible refine' Ex.locX ?z9hs ?z9hv ?z9hn ?_); (case z9hs => assumption); (case z9hv => ksk_a2); (case z9hn => kernel_rfl)) | ((with_reducible refine' Ex.lst ?z9hz ?_); (case z9hz => exact rfl)) | ((with_reducible refine' Ss.expr ?z9hw ?_); (case z9hw => (intro _; exact rfl))) | ((with_reducible refine' Ss.setA ?z9hw ?_); (case z9hw => (intro _; exact rfl))) | ((with_reducible refine' Ss.nil ?_)) | ((with_reducible refine' Ex.meth ?z9he ?_); (case z9he => exact rfl)) | ((with_reducible refine' Ex.gloX ?z9hs ?z9e ?z9hn ?_); (case z9hs => assumption); (case z9e => k_is); (case z9hn => kernel_rfl)) | (with_reducible intro a9)))
  exact ⟨rfl, hR _ [_, _] (.mk (.head _) (.tail _ (.head _)))⟩
theorem mk_binds (w : World) : ∀ (v1 v2 : Value), RD w 3 218 [v1, v2] [] (O_binds v1 v2) := by
  intro v1 v2 G ρ all R hw hn _ sub hR
  subst hw
  refine Ca.cls (binds := fun x => [("self", .ref x), ("sigs", v1), ("binds", v2), ("place", .none)]) (by k_is) (by k_is) (by k_is) (fun x => by kas_ty) (by omega) ?_
  intro G' x d e1 e2 e3 e4 e5 e6
  have hk1 : 1 ≤ G'.k := by omega
  (repeat' (first | ((with_reducible refine' Ca.node ?z9hn ?z9m ?z9m2 ?z9hC ?_); (case z9hn => first | assumption | omega); (case z9m => ksk_a2); (case z9m2 => ksk_a2); (case z9hC => kernel_rfl); intro t9; (refine' ⟨_, ?z9U, ?_⟩); (case z9U => ksk_a1)) | ((with_reducible refine' Sa.inst ?z9m ?z9m2 ?z9hC ?z9hl ?z9hx ?z9hz ?_); (case z9m => ksk_a2); (case z9m2 => ksk_a2); (case z9hC => kernel_rfl); (case z9hl => kernel_rfl); (case z9hx => kernel_rfl); (case z9hz => kernel_rfl); intro t9; (refine' ⟨_, ?z9U, ?_⟩); (case z9U => ksk_a1)) | ((with_reducible refine' Gm.cls ?z9h1 ?z9h2 ?z9h3 ?z9h4 ?_); (case z9h1 => k_is); (case z9h2 => k_is); (case z9h3 => k_is); (case z9h4 => k_is)) | ((with_reducible refine' Cw.f0 ?z9hf ?z9hp ?_); (case z9hf => k_is); (case z9hp => exact rfl)) | ((with_reducible refine' Exs.locX ?z9hs ?z9hv ?z9hn ?_); (case z9hs => assumption); (case z9hv => ksk_a2); (case z9hn => kernel_rfl)) | ((with_reducible refine' Exs.nil ?_)) | ((with_reducible refine' Ex.locX ?z9hs ?z9hv ?z9hn ?_); (case z9hs => assumption); (case z9hv => ksk_a2); (case z9hn => kernel_rfl)) | ((with_reducible refine' Ex.lst ?z9hz ?_); (case z9hz => exact rfl)) | ((with_reducible refine' Ss.expr ?z9hw ?_); (case z9hw => (intro _; exact rfl))) | ((with_reducible refine' Ss.setA ?z9hw ?_); (case z9hw => (intro _; exact rfl))) | ((with_reducible refine' Ss.nil ?_)) | ((with_reducible refine' Ex.meth ?z9he ?_); (case z9he => exact rfl)) | ((with_reducible refine' Ex.gloX ?z9hs ?z9e ?z9hn ?_); (case z9hs => assumption); (case z9e => k_is); (case z9hn => kernel_rfl)) | (with_reducible intro a9)))
  exact ⟨rfl, hR _ [_, _, _] (.mk (.tail _ (.head _)) (.tail _ (.tail _ (.head _))))⟩
theorem mks (w : World) : Mks w := ⟨mk_var w, mk_con w, mk_lit w, mk_app w, mk_op w, mk_infix w, mk_infixP w, mk_tup w, mk_paren w, mk_pvar w, mk_plit w, mk_pcon w, mk_pparen w, mk_ptup w, mk_pinfix w, mk_funbind w, mk_clause w, mk_patbind w, mk_rhs w, mk_binds w⟩
theorem plain_c {w : World} : PlainC w := by
  intro x t hx
  unfold PE.names at hx
  simp only [List.mem_cons, List.not_mem_nil, or_false] at hx
  rcases hx with rfl | rfl | rfl | rfl
  all_goals
    refine RD.enter (binds := [("name", _)]) (by kas_ty) ?_
    intro G all hw hs hn sub
    (repeat' (first | ((with_reducible refine' Ss.raise ?z9hS ?z9hx ?z9hM ?_); (case z9hS => assumption); (case z9hx => assumption); (case z9hM => exact mk45 _)) | ((with_reducible refine' Ca.errX ?z9hn ?z9hne ?z9s0); (case z9hn => omega); (case z9hne => kernel_rfl!); (case z9s0 => k_units)) | ((with_reducible refine' Ex.chain2 ?z9hm ?_); (case z9hm => exact rfl)) | ((with_reducible refine' Ex.cmp ?z9hm ?_); (case z9hm => exact rfl)) | ((with_reducible refine' Ex.and2 ?_)) | ((with_reducible refine' Ex.or2 ?_)) | ((with_reducible refine' Sb.strAt ?z9hr ?z9hc ?z9hs ?_); (case z9hr => kernel_rfl); (case z9hc => exact rfl); (case z9hs => exact ⟨_, rfl⟩); intro t9) | ((with_reducible refine' Cm.notInS (c := true) ?z9hc ?_); (case z9hc => first | assumption | kernel_rfl!)) | ((with_reducible refine' Cm.notInS (c := false) ?z9hc ?_); (case z9hc => first | assumption | kernel_rfl!)) | ((with_reducible refine' Cm.leS (c := true) ?z9hc ?_); (case z9hc => first | assumption | kernel_rfl!)) | ((with_reducible refine' Cm.leS (c := false) ?z9hc ?_); (case z9hc => first | assumption | kernel_rfl!)) | ((with_reducible refine' Gm.alpha ?_)) | ((with_reducible refine' Cw.bi0 ?_)) | ((with_reducible refine' Ca.alpha true ?z9hc ?_); (case z9hc => kernel_rfl!)) | ((with_reducible refine' Ca.alpha false ?z9hc ?_); (case z9hc => kernel_rfl!)) | ((with_reducible refine' Bi.addS ?z9hz ?_); (case z9hz => kernel_rfl); intro t9) | ((with_reducible refine' Ca.inl1 (f := 805) "name" ?z9hw ?z9H ?z9hn ?_); (case z9hw => assumption); (case z9H => kas_ty); (case z9hn => omega); intro G9 w9 s9 k9 c9 x9 bb9; (try replace c9 := c9.trans (by assumption)); (try replace x9 := x9.trans (by assumption))) | ((with_reducible refine' Te.plain ?z9ht ?_); (case z9ht => (intro _ _; exact rfl))) | (with_reducible refine' ⟨_, rfl, ?_⟩) | ((with_reducible refine' Exs.locX ?z9hs ?z9hv ?z9hn ?_); (case z9hs => assumption); (case z9hv => ksk_a2); (case z9hn => kernel_rfl)) | ((with_reducible refine' Exs.nil ?_)) | ((with_reducible refine' Exs.cons ?z9hp ?_); (case z9hp => exact rfl)) | ((with_reducible refine' Ex.locX ?z9hs ?z9hv ?z9hn ?_); (case z9hs => assumption); (case z9hv => ksk_a2); (case z9hn => kernel_rfl)) | ((with_reducible refine' Ex.callFX ?z9hs ?z9hg ?z9hf ?z9hn ?_); (case z9hs => assumption); (case z9hg => k_is); (case z9hf => k_is); (case z9hn => kernel_rfl)) | ((with_reducible refine' Ex.int ?_); intro t9) | ((with_reducible refine' Ex.str ?_); intro t9) | ((with_reducible refine' Ss.ret ?_)) | ((with_reducible refine' Ss.iteN ?_)) | ((with_reducible refine' Ex.bin ?_)) | ((with_reducible refine' Ex.sub ?_)) | ((with_reducible refine' Ex.meth ?z9he ?_); (case z9he => exact rfl))))
  all_goals (with_reducible refine Fin.mk (by ki_room) (by ki_room) ?_)
  all_goals exact .mk
theorem own_c {w : World} : OwnC w := by
  intro x t pl hx
  unfold goodNames at hx
  simp only [List.mem_cons, List.not_mem_nil, or_false] at hx
  rcases hx with rfl | rfl | rfl | rfl | rfl
  all_goals
    refine RD.enter (binds := [("name", _), ("place", pl)]) (by kas_ty) ?_
    intro G all hw hs hn sub
    (repeat' (first | ((with_reducible refine' Ss.raise ?z9hS ?z9hx ?z9hM ?_); (case z9hS => assumption); (case z9hx => assumption); (case z9hM => exact mk45 _)) | ((with_reducible refine' Ca.errX ?z9hn ?z9hne ?z9s0); (case z9hn => omega); (case z9hne => kernel_rfl!); (case z9s0 => k_units)) | ((with_reducible refine' Ex.chain2 ?z9hm ?_); (case z9hm => exact rfl)) | ((with_reducible refine' Ex.cmp ?z9hm ?_); (case z9hm => exact rfl)) | ((with_reducible refine' Ex.and2 ?_)) | ((with_reducible refine' Ex.or2 ?_)) | ((with_reducible refine' Sb.strAt ?z9hr ?z9hc ?z9hs ?_); (case z9hr => kernel_rfl); (case z9hc => exact rfl); (case z9hs => exact ⟨_, rfl⟩); intro t9) | ((with_reducible refine' Cm.notInS (c := true) ?z9hc ?_); (case z9hc => first | assumption | kernel_rfl!)) | ((with_reducible refine' Cm.notInS (c := false) ?z9hc ?_); (case z9hc => first | assumption | kernel_rfl!)) | ((with_reducible refine' Cm.leS (c := true) ?z9hc ?_); (case z9hc => first | assumption | kernel_rfl!)) | ((with_reducible refine' Cm.leS (c := false) ?z9hc ?_); (case z9hc => first | assumption | kernel_rfl!)) | ((with_reducible refine' Gm.alpha ?_)) | ((with_reducible refine' Cw.bi0 ?_)) | ((with_reducible refine' Ca.alpha true ?z9hc ?_); (case z9hc => kernel_rfl!)) | ((with_reducible refine' Ca.alpha false ?z9hc ?_); (case z9hc => kernel_rfl!)) | ((with_reducible refine' Bi.addS ?z9hz ?_); (case z9hz => kernel_rfl); intro t9) | ((with_reducible refine' Ca.inl1 (f := 805) "name" ?z9hw ?z9H ?z9hn ?_); (case z9hw => assumption); (case z9H => kas_ty); (case z9hn => omega); intro G9 w9 s9 k9 c9 x9 bb9; (try replace c9 := c9.trans (by assumption)); (try replace x9 := x9.trans (by assumption))) | ((with_reducible refine' Te.plain ?z9ht ?_); (case z9ht => (intro _ _; exact rfl))) | (with_reducible refine' ⟨_, rfl, ?_⟩) | ((with_reducible refine' Exs.locX ?z9hs ?z9hv ?z9hn ?_); (case z9hs => assumption); (case z9hv => ksk_a2); (case z9hn => kernel_rfl)) | ((with_reducible refine' Exs.nil ?_)) | ((with_reducible refine' Exs.cons ?z9hp ?_); (case z9hp => exact rfl)) | ((with_reducible refine' Ex.locX ?z9hs ?z9hv ?z9hn ?_); (case z9hs => assumption); (case z9hv => ksk_a2); (case z9hn => kernel_rfl)) | ((with_reducible refine' Ex.callFX ?z9hs ?z9hg ?z9hf ?z9hn ?_); (case z9hs => assumption); (case z9hg => k_is); (case z9hf => k_is); (case z9hn => kernel_rfl)) | ((with_reducible refine' Ex.int ?_); intro t9) | ((with_reducible refine' Ex.str ?_); intro t9) | ((with_reducible refine' Ss.ret ?_)) | ((with_reducible refine' Ss.iteN ?_)) | ((with_reducible refine' Ex.bin ?_)) | ((with_reducible refine' Ex.sub ?_)) | ((with_reducible refine' Ex.meth ?z9he ?_); (case z9he => exact rfl))))
  all_goals (with_reducible refine Fin.mk (by ki_room) (by ki_room) ?_)
  all_goals exact .mk
theorem own_e {w : World} : OwnE w := by
  intro x t pl hx
  unfold badNames at hx
  simp only [List.mem_cons, List.not_mem_nil, or_false] at hx
  rcases hx with rfl | rfl
  all_goals
    refine RE.enter (binds := [("name", _), ("place", pl)]) (by kas_ty) ?_
    intro G all all0 hw hs hn hS hx s0 sub
    (repeat' (first | ((with_reducible refine' Ss.raise ?z9hS ?z9hx ?z9hM ?_); (case z9hS => assumption); (case z9hx => assumption); (case z9hM => exact mk45 _)) | ((with_reducible refine' Ca.errX ?z9hn ?z9hne ?z9s0); (case z9hn => omega); (case z9hne => kernel_rfl!); (case z9s0 => k_units)) | ((with_reducible refine' Ex.chain2 ?z9hm ?_); (case z9hm => exact rfl)) | ((with_reducible refine' Ex.cmp ?z9hm ?_); (case z9hm => exact rfl)) | ((with_reducible refine' Ex.and2 ?_)) | ((with_reducible refine' Ex.or2 ?_)) | ((with_reducible refine' Sb.strAt ?z9hr ?z9hc ?z9hs ?_); (case z9hr => kernel_rfl); (case z9hc => exact rfl); (case z9hs => exact ⟨_, rfl⟩); intro t9) | ((with_reducible refine' Cm.notInS (c := true) ?z9hc ?_); (case z9hc => first | assumption | kernel_rfl!)) | ((with_reducible refine' Cm.notInS (c := false) ?z9hc ?_); (case z9hc => first | assumption | kernel_rfl!)) | ((with_reducible refine' Cm.leS (c := true) ?z9hc ?_); (case z9hc => first | assumption | kernel_rfl!)) | ((with_reducible refine' Cm.leS (c := false) ?z9hc ?_); (case z9hc => first | assumption | kernel_rfl!)) | ((with_reducible refine' Gm.alpha ?_)) | ((with_reducible refine' Cw.bi0 ?_)) | ((with_reducible refine' Ca.alpha true ?z9hc ?_); (case z9hc => kernel_rfl!)) | ((with_reducible refine' Ca.alpha false ?z9hc ?_); (case z9hc => kernel_rfl!)) | ((with_reducible refine' Bi.addS ?z9hz ?_); (case z9hz => kernel_rfl); intro t9) | ((with_reducible refine' Ca.inl1 (f := 805) "name" ?z9hw ?z9H ?z9hn ?_); (case z9hw => assumption); (case z9H => kas_ty); (case z9hn => omega); intro G9 w9 s9 k9 c9 x9 bb9; (try replace c9 := c9.trans (by assumption)); (try replace x9 := x9.trans (by assumption))) | ((with_reducible refine' Te.plain ?z9ht ?_); (case z9ht => (intro _ _; exact rfl))) | (with_reducible refine' ⟨_, rfl, ?_⟩) | ((with_reducible refine' Exs.locX ?z9hs ?z9hv ?z9hn ?_); (case z9hs => assumption); (case z9hv => ksk_a2); (case z9hn => kernel_rfl)) | ((with_reducible refine' Exs.nil ?_)) | ((with_reducible refine' Exs.cons ?z9hp ?_); (case z9hp => exact rfl)) | ((with_reducible refine' Ex.locX ?z9hs ?z9hv ?z9hn ?_); (case z9hs => assumption); (case z9hv => ksk_a2); (case z9hn => kernel_rfl)) | ((with_reducible refine' Ex.callFX ?z9hs ?z9hg ?z9hf ?z9hn ?_); (case z9hs => assumption); (case z9hg => k_is); (case z9hf => k_is); (case z9hn => kernel_rfl)) | ((with_reducible refine' Ex.int ?_); intro t9) | ((with_reducible refine' Ex.str ?_); intro t9) | ((with_reducible refine' Ss.ret ?_)) | ((with_reducible refine' Ss.iteN ?_)) | ((with_reducible refine' Ex.bin ?_)) | ((with_reducible refine' Ex.sub ?_)) | ((with_reducible refine' Ex.meth ?z9he ?_); (case z9he => exact rfl))))
theorem pat_step {w : World} {led : Led} {a : Addr} {q : PE} (Mk : Mks w) (Pl : PlainC w) (H : PatIH w q.size) (R : PIn led a q) : RD w (6 * q.size) 779 [.ref a] led (O_pat q) := by
  cases R
  all_goals
    simp only [PE.size] at H
    dsimp only [PE.size]
    refine RD.enterPos (binds := [("expr", .ref _)]) (by omega) (by kas_ty) ?_
    intro G all hw hs hn sub
    (repeat' (first | ((with_reducible refine' Ca.i1 ?z9hw ?z9hn ?z9C ?_); (case z9C => first | with_reducible exact Mk.c_pvar _ _ | with_reducible exact Mk.c_pparen _ _ | with_reducible exact Mk.c_ptup _ _ | with_reducible exact Mk.c_pinfix _ _); (case z9hw => assumption); (case z9hn => first | assumption | exact Nat.le_trans (Nat.le_of_ble_eq_true rfl) (by assumption) | omega); intro tl9 a9 d9 n9 h09 h19 t09 t19 m9 m9) | ((with_reducible refine' Ca.i2 ?z9hw ?z9hn ?z9C ?_); (case z9C => first | with_reducible exact Mk.c_plit _ _ _ | with_reducible exact Mk.c_pcon _ _ _); (case z9hw => assumption); (case z9hn => first | assumption | exact Nat.le_trans (Nat.le_of_ble_eq_true rfl) (by assumption) | omega); intro tl9 a9 d9 n9 h09 h19 h29 t09 t19 t29 m9 m9) | ((with_reducible refine' Ex.attrX ?z9hs ?z9hv ?z9hn ?z9m1 ?z9m2 ?z9hD ?z9hl ?z9hh ?_); (case z9hs => assumption); (case z9hv => ksk_a2); (case z9hn => kernel_rfl); (case z9m1 => ksk_a2); (case z9m2 => ksk_a2); (case z9hD => kernel_rfl!); (case z9hl => k_get); (case z9hh => first | exact rfl | k_handed)) | ((with_reducible refine' Ga.node ?z9m1 ?z9m2 ?z9hD ?z9hx ?z9hl ?z9hv ?_); (case z9m1 => ksk_a2); (case z9m2 => ksk_a2); (case z9hD => kernel_rfl!); (case z9hx => kernel_rfl!); (case z9hl => k_get); (case z9hv => first | exact rfl | k_handed)) | ((with_reducible refine' Te.plain ?z9ht ?_); (case z9ht => (intro _ _; exact rfl))) | (with_reducible refine' ⟨_, rfl, ?_⟩) | ((with_reducible refine' Ca.rd0 ?z9hw ?z9hn ?z9C ?_); (case z9C => first | with_reducible exact PlainC.use Pl (by assumption)); (case z9hw => assumption); (case z9hn => first | assumption | exact Nat.le_trans (Nat.le_of_ble_eq_true rfl) (by assumption) | omega); intro v9 tl9 o9; cases o9) | ((with_reducible refine' Ca.rd ?z9hw ?z9hn ?z9C ?z9sb ?_); (case z9C => first | with_reducible exact PatIH.use H (by assumption) (by omega)); (case z9hw => assumption); (case z9hn => first | assumption | exact Nat.le_trans (Nat.le_of_ble_eq_true rfl) (by assumption) | omega); (case z9sb => k_units); intro v9 tl9 sb9 o9; cases o9) | ((with_reducible refine' Ca.inl1 (f := 784) "expr" ?z9hw ?z9H ?z9hn ?_); (case z9hw => assumption); (case z9H => kas_ty); (case z9hn => omega); intro G9 w9 s9 k9 c9 x9 bb9; (try replace c9 := c9.trans (by assumption)); (try replace x9 := x9.trans (by assumption))) | ((with_reducible refine' Ca.inl2 (f := 791) "items" "place" ?z9hw ?z9H ?z9hn ?_); (case z9hw => assumption); (case z9H => kas_ty); (case z9hn => omega); intro G9 w9 s9 k9 c9 x9 bb9; (try replace c9 := c9.trans (by assumption)); (try replace x9 := x9.trans (by assumption))) | ((with_reducible refine' Ca.inl1 (f := 798) "op" ?z9hw ?z9H ?z9hn ?_); (case z9hw => assumption); (case z9H => kas_ty); (case z9hn => omega); intro G9 w9 s9 k9 c9 x9 bb9; (try replace c9 := c9.trans (by assumption)); (try replace x9 := x9.trans (by assumption))) | ((with_reducible refine' Ca.isiP ?z9P ?z9sb ?_); (case z9P => assumption); (case z9sb => k_units)) | ((with_reducible refine' Ss.isiN ?z9hs ?z9hv ?z9hn ?z9hg ?z9m1 ?z9m2 ?z9hD ?_); (case z9hs => assumption); (case z9hv => ksk_a2); (case z9hn => kernel_rfl); (case z9hg => k_is); (case z9m1 => ksk_a2); (case z9m2 => ksk_a2); (case z9hD => kernel_rfl!)) | ((with_reducible refine' Te.isiX false ?z9hs ?z9hv ?z9hn ?z9hg ?z9m1 ?z9m2 ?z9hD ?_); (case z9hs => assumption); (case z9hv => ksk_a2); (case z9hn => kernel_rfl); (case z9hg => k_is); (case z9m1 => ksk_a2); (case z9m2 => ksk_a2); (case z9hD => kernel_rfl!)) | ((with_reducible refine' Te.isiX true ?z9hs ?z9hv ?z9hn ?z9hg ?z9m1 ?z9m2 ?z9hD ?_); (case z9hs => assumption); (case z9hv => ksk_a2); (case z9hn => kernel_rfl); (case z9hg => k_is); (case z9m1 => ksk_a2); (case z9m2 => ksk_a2); (case z9hD => kernel_rfl!)) | ((with_reducible refine' Ca.isi ?z9m1 ?z9m2 ?z9hD ?z9hC false ?z9hb ?_); (case z9m1 => ksk_a2); (case z9m2 => ksk_a2); (case z9hD => kernel_rfl!); (case z9hC => kernel_rfl!); (case z9hb => kernel_rfl!)) | ((with_reducible refine' Ca.isi ?z9m1 ?z9m2 ?z9hD ?z9hC true ?z9hb ?_); (case z9m1 => ksk_a2); (case z9m2 => ksk_a2); (case z9hD => kernel_rfl!); (case z9hC => kernel_rfl!); (case z9hb => kernel_rfl!)) | ((with_reducible refine' Ca.isiA ?z9m1 ?z9m2 ?z9mt ?z9hD false ?z9hb ?_); (case z9m1 => ksk_a2); (case z9m2 => ksk_a2); (case z9mt => ksk_a2); (case z9hD => kernel_rfl!); (case z9hb => kernel_rfl!)) | ((with_reducible refine' Ca.isiA ?z9m1 ?z9m2 ?z9mt ?z9hD true ?z9hb ?_); (case z9m1 => ksk_a2); (case z9m2 => ksk_a2); (case z9mt => ksk_a2); (case z9hD => kernel_rfl!); (case z9hb => kernel_rfl!)) | ((with_reducible refine' Ca.isiT ?z9m1 ?z9m2 ?z9mt ?z9hD ?_); (case z9m1 => ksk_a2); (case z9m2 => ksk_a2); (case z9mt => ksk_a2); (case z9hD => kernel_rfl!)) | ((with_reducible refine' Ss.while ?_)) | ((with_reducible refine' Wh.turn ?_)) | ((with_reducible refine' Te.notM ?_)) | ((with_reducible refine' Cm.neS (c := true) ?z9hc ?_); (case z9hc => first | assumption | kernel_rfl!)) | ((with_reducible refine' Cm.neS (c := false) ?z9hc ?_); (case z9hc => first | assumption | kernel_rfl!)) | ((with_reducible refine' Bi.subC (-3) ?z9hc ?_); (case z9hc => kernel_rfl!); intro t9) | ((with_reducible refine' Bi.modI ?z9hb ?_); (case z9hb => decide); intro t9) | ((with_reducible refine' Gm.list ?z9m PySem.F.slot_list_append PySem.F.type_list_append ?_); (case z9m => ksk_a2)) | ((with_reducible refine' Gm.list ?z9m PySem.F.slot_list_reverse PySem.F.type_list_reverse ?_); (case z9m => ksk_a2)) | ((with_reducible refine' Ca.appL ?z9m ?z9hs ?z9hz ⟨_, ?z9U, ?_⟩); (case z9m => ksk_a2); (case z9hs => (repeat with_reducible apply Snoc.cons); with_reducible exact Snoc.nil); (case z9hz => exact rfl); (case z9U => ksk_a1)) | ((with_reducible refine' Ca.revL ?z9m ?z9hs ?z9hz ⟨_, ?z9U, ?_⟩); (case z9m => ksk_a2); (case z9hs => (repeat with_reducible apply RevA.cons); with_reducible exact RevA.nil); (case z9hz => exact rfl); (case z9U => ksk_a1)) | ((with_reducible refine' Cw.bi0 ?_)) | ((with_reducible refine' Cw.b1 ?z9hp ?_); (case z9hp => exact rfl)) | ((with_reducible refine' Ex.compF ?z9hg ?z9hf ?z9hk ?z9hd ?z9hxd ?z9hclos ?z9hcell ?z9hkind ?z9hnames ?z9hx ?z9hfs ?_); (case z9hg => k_is); (case z9hf => k_is); (case z9hk => kernel_rfl!); (case z9hd => kernel_rfl); (case z9hxd => kernel_rfl); (case z9hclos => exact rfl); (case z9hcell => kernel_rfl); (case z9hkind => exact rfl); (case z9hnames => kernel_rfl); (case z9hx => kernel_rfl!); (case z9hfs => (intro _ _; exact rfl)); intro m9) | ((with_reducible refine' ⟨_, _, _, rfl, ?z9m, ?z9hz, ?_⟩); (case z9m => ksk_a2); (case z9hz => exact Nat.le_of_ble_eq_true rfl)) | ((with_reducible refine' MapC.cons (FRd.mk ?z9hw ?z9hn ?z9C ?z9sb ?_)); (case z9hw => assumption); (case z9C => exact PatIH.use H (by assumption) (by omega)); (case z9hn => omega); (case z9sb => k_units); intro r9 tl9 sb9 o9; cases o9; (refine' ⟨?z9m, ?_⟩; (case z9m => ksk_a2))) | ((with_reducible refine' MapC.nil ?_); intro D9) | ((with_reducible refine' Exs.locX ?z9hs ?z9hv ?z9hn ?_); (case z9hs => assumption); (case z9hv => ksk_a2); (case z9hn => kernel_rfl)) | ((with_reducible refine' Exs.nil ?_)) | ((with_reducible refine' Exs.int ?_); intro t9) | ((with_reducible refine' Exs.str ?_); intro t9) | ((with_reducible refine' Exs.cons ?z9hp ?_); (case z9hp => exact rfl)) | ((with_reducible refine' Ex.locX ?z9hs ?z9hv ?z9hn ?_); (case z9hs => assumption); (case z9hv => ksk_a2); (case z9hn => kernel_rfl)) | ((with_reducible refine' Ex.callFX ?z9hs ?z9hg ?z9hf ?z9hn ?_); (case z9hs => assumption); (case z9hg => k_is); (case z9hf => k_is); (case z9hn => kernel_rfl)) | ((with_reducible refine' Ex.int ?_); intro t9) | ((with_reducible refine' Ex.str ?_); intro t9) | ((with_reducible refine' Ex.tup ?z9hz ?_); (case z9hz => exact rfl)) | ((with_reducible refine' Ex.lst ?z9hz ?_); (case z9hz => exact rfl)) | ((with_reducible refine' Ss.ret ?_)) | ((with_reducible refine' Ss.iteR ?_)) | ((with_reducible refine' Ss.iteN ?_)) | ((with_reducible refine' Ss.ite ?_)) | ((with_reducible refine' Ss.asg ?z9hs ?z9hk ?z9hw ?z9hx ?_); (case z9hs => assumption); (case z9hk => kernel_rfl!); (case z9hw => (intro _; exact rfl)); (case z9hx => kernel_rfl!)) | ((with_reducible refine' Ss.asgU ?z9hs ?z9hk ?z9hw ?z9hdr ?z9hx ?_); (case z9hs => assumption); (case z9hk => kernel_rfl!); (case z9hw => (intro _; exact rfl)); (case z9hdr => repeat (first | with_reducible exact Drop.head | with_reducible apply Drop.tail)); (case z9hx => kernel_rfl!)) | ((with_reducible refine' Ss.expr ?z9hw ?_); (case z9hw => (intro _; exact rfl))) | ((with_reducible refine' Ss.nil ?_)) | ((with_reducible refine' Te.cmp ?z9hm ?_); (case z9hm => exact rfl)) | ((with_reducible refine' Te.ands ?_); intro w9) | ((with_reducible refine' Te.ors ?_); intro w9) | ((with_reducible refine' Te.and ?_)) | ((with_reducible refine' Te.or ?_)) | ((with_reducible refine' Te.and0 ?_)) | ((with_reducible refine' Te.or0 ?_)) | ((with_reducible refine' Cm.eqI (c := true) ?z9hc ?_); (case z9hc => first | assumption | kernel_rfl!)) | ((with_reducible refine' Cm.eqI (c := false) ?z9hc ?_); (case z9hc => first | assumption | kernel_rfl!)) | ((with_reducible refine' Cm.ltI (c := true) ?z9hc ?_); (case z9hc => first | assumption | kernel_rfl!)) | ((with_reducible refine' Cm.ltI (c := false) ?z9hc ?_); (case z9hc => first | assumption | kernel_rfl!)) | ((with_reducible refine' Ex.bin ?_)) | ((with_reducible refine' Ex.itemX ?z9hs ?z9hv ?z9hn ?z9m ?z9ho ?z9hi ?z9hx ?_); (case z9hs => assumption); (case z9hv => ksk_a2); (case z9hn => kernel_rfl); (case z9m => ksk_a2); (case z9ho => first | with_reducible exact SeqO.list | with_reducible exact SeqO.pair | with_reducible exact SeqO.tup); (case z9hi => kernel_rfl); (case z9hx => first | exact rfl | assumption)) | ((with_reducible refine' Ex.sub ?_)) | ((with_reducible refine' Ex.ifexp ?_)) | ((with_reducible refine' Ex.meth ?z9he ?_); (case z9he => exact rfl)) | ((with_reducible refine' Ex.callB ?z9hs ?z9hg ?z9hv ?z9hm ?z9hk ?z9hd ?z9hp ?_); (case z9hs => assumption); (case z9hg => k_is); (case z9hv => boot_fast); (case z9hm => decide); (case z9hk => kernel_rfl!); (case z9hd => kernel_rfl); (case z9hp => exact rfl)) | ((with_reducible refine' Bi.addI ?_); intro t9) | ((with_reducible refine' Ca.len ?z9m ?z9hk ?z9hz ?_); (case z9m => ksk_a2); (case z9hk => first | (exact len_lit (k := 2) (ki := 2) rfl rfl) | (exact len_lit (k := 1) (ki := 1) rfl rfl) | (exact len_lit (k := 3) (ki := 3) rfl rfl) | (exact len_lit (k := 4) (ki := 4) rfl rfl) | (exact len_lit (k := 0) (ki := 0) rfl rfl) | (exact len_lit (k := 5) (ki := 5) rfl rfl) | (exact len_lit (k := 6) (ki := 6) rfl rfl) | (exact len_lit (k := 7) (ki := 7) rfl rfl) | (exact len_lit (k := 8) (ki := 8) rfl rfl) | (exact len_lit (k := 9) (ki := 9) rfl rfl) | exact ⟨rfl, rfl⟩); (case z9hz => first | exact Nat.le_of_ble_eq_true rfl | omega); intro t9) | ((with_reducible refine' Sb.item ?z9m ?z9ho ?z9h0 ?z9hi ?z9hx ?z9hs ?_); (case z9m => ksk_a2); (case z9ho => first | with_reducible exact SeqO.list | with_reducible exact SeqO.pair | with_reducible exact SeqO.tup); (case z9h0 => first | decide | omega); (case z9hi => first | decide | omega); (case z9hx => first | exact rfl | assumption); (case z9hs => exact rfl)) | ((with_reducible refine' Ss.asg2s ?z9hs ?z9hx ?z9hy ?z9hw ?z9hn ?_); (case z9hs => assumption); (case z9hx => kernel_rfl!); (case z9hy => kernel_rfl!); (case z9hw => (intro _; exact rfl)); (case z9hn => (intro _ _ _ _ _; kernel_rfl!))) | ((with_reducible refine' ⟨_, _, _, _, _, _, rfl, ?z9m, ?z9d1, ?z9d2, ?_⟩); (case z9m => ksk_a2); (case z9d1 => first | ((refine' Drp.same ?_); kernel_rfl!) | ((refine' Drp.out ?z9x ?z9y); (case z9x => repeat (first | with_reducible exact Drop.head | with_reducible apply Drop.tail)); (case z9y => kernel_rfl!))); (case z9d2 => first | ((refine' Drp.same ?_); kernel_rfl!) | ((refine' Drp.out ?z9x ?z9y); (case z9x => repeat (first | with_reducible exact Drop.head | with_reducible apply Drop.tail)); (case z9y => kernel_rfl!)))) | ((with_reducible refine' Ex.gloX ?z9hs ?z9e ?z9hn ?_); (case z9hs => assumption); (case z9e => k_is); (case z9hn => kernel_rfl)) | (with_reducible intro a9)))
  all_goals (with_reducible refine Fin.mk (by ki_room) (by ki_room) ?_)
  · exact .mk (.lit (by ksk_a2) (by ksk_a2))
  · exact .mk (.chr (by ksk_a2) (by ksk_a2))
  · exact .mk (.con (by ksk_a2) (by ksk_a2) (by ksk_a2))
  · exact .mk (.var (by ksk_a2) (by ksk_a2))
  · exact .mk (.app (by ksk_a2) (by ksk_a2) (by ksk_a2) (PatIn.mono (by assumption) (by k_units)))
  · exact .mk (.paren (by ksk_a2) (by ksk_a2) (PatIn.mono (by assumption) (by k_units)))
  · exact .mk (.tup (by ksk_a2) (by ksk_a2) (by ksk_a2) (PatIn.mono (by assumption) (by k_units)) (PatIn.mono (by assumption) (by k_units)))
  · exact .mk (.neg (by ksk_a2) (by ksk_a2))
  · exact .mk (.two (by ksk_a2) (by ksk_a2) (by ksk_a2) (by ksk_a2) (by ksk_a2) (PatIn.mono (by assumption) (by k_units)) (PatIn.mono (by assumption) (by k_units)))
theorem pat_all {w : World} (Mk : Mks w) (Pl : PlainC w) : PatAll w := by
  intro k
  induction k with
  | zero => exact fun p h => absurd h (Nat.not_lt_zero _)
  | succ k ih =>
    intro p h led a R
    exact pat_step Mk Pl (fun p' h' => ih p' (Nat.lt_of_lt_of_le h' (Nat.le_of_lt_succ h))) R
theorem op_row {w : World} : OpRowC w := by
  intro led o od on g1 g2 g3 s1 s2 s3 to x c m1 m2
  refine RD.enter (binds := [("self", .ref o)]) (by kas_ty) ?_
  intro G all hw hs hn sub
  (repeat' (first | ((with_reducible refine' Ex.attrX ?z9hs ?z9hv ?z9hn ?z9m1 ?z9m2 ?z9hD ?z9hl ?z9hh ?_); (case z9hs => assumption); (case z9hv => ksk_a2); (case z9hn => kernel_rfl); (case z9m1 => ksk_a2); (case z9m2 => ksk_a2); (case z9hD => kernel_rfl!); (case z9hl => k_get); (case z9hh => first | exact rfl | k_handed)) | ((with_reducible refine' Ga.node ?z9m1 ?z9m2 ?z9hD ?z9hx ?z9hl ?z9hv ?_); (case z9m1 => ksk_a2); (case z9m2 => ksk_a2); (case z9hD => kernel_rfl!); (case z9hx => kernel_rfl!); (case z9hl => k_get); (case z9hv => first | exact rfl | k_handed)) | ((with_reducible refine' Ca.rd ?z9hw ?z9hn ?z9C ?z9sb ?_); (case z9C => first | with_reducible exact RowIH.use H (by assumption) (by omega)); (case z9hw => assumption); (case z9hn => first | assumption | exact Nat.le_trans (Nat.le_of_ble_eq_true rfl) (by assumption) | omega); (case z9sb => k_units); intro v9 tl9 sb9 o9; cases o9) | ((with_reducible refine' Ca.rows ?z9m ?z9hz ?z9hn ?_); (case z9m => ksk_a2); (case z9hz => exact Nat.le_of_ble_eq_true rfl); (case z9hn => omega)) | ((with_reducible refine' MapC.cons (FRow.mk ?z9H ?z9hw ?z9hn ?z9C ?z9sb ?_)); (case z9hw => assumption); (case z9C => exact RowIH.use H (by assumption) (by omega)); (case z9H => (refine' PatIn.rowIn ?z9R1 ?z9S1; (case z9R1 => assumption); (case z9S1 => k_units))); (case z9hn => omega); (case z9sb => k_units); intro r9 tl9 sb9 o9; cases o9; (refine' ⟨?z9m, ?_⟩; (case z9m => ksk_a2))) | ((with_reducible refine' MapC.cons (FRow.mk ?z9H ?z9hw ?z9hn ?z9C ?z9sb ?_)); (case z9hw => assumption); (case z9C => exact OpRowC.use Op (by with_reducible assumption) (by with_reducible assumption)); (case z9H => exact HasRow.of (by ksk_a2) (by ksk_a2) (by kernel_rfl!) (by kernel_rfl!)); (case z9hn => omega); (case z9sb => k_units); intro r9 tl9 sb9 o9; cases o9; (refine' ⟨?z9m, ?_⟩; (case z9m => ksk_a2))) | ((with_reducible refine' MapC.nil ?_); (try intro D9); (try intro T9)) | ((with_reducible refine' Gm.row ?z9H ?_); (case z9H => (refine' PatIn.rowIn ?z9R1 ?z9S1; (case z9R1 => assumption); (case z9S1 => k_units)))) | ((with_reducible refine' Cw.m0 ?z9hf ?_); (case z9hf => first | with_reducible exact keepRow _ _ | k_is)) | ((with_reducible refine' Exs.nil ?_)) | ((with_reducible refine' Exs.str ?_); intro t9) | ((with_reducible refine' Exs.cons ?z9hp ?_); (case z9hp => exact rfl)) | ((with_reducible refine' Ex.callFX ?z9hs ?z9hg ?z9hf ?z9hn ?_); (case z9hs => assumption); (case z9hg => k_is); (case z9hf => k_is); (case z9hn => kernel_rfl)) | ((with_reducible refine' Ex.tup ?z9hz ?_); (case z9hz => exact rfl)) | ((with_reducible refine' Ss.ret ?_)) | ((with_reducible refine' Ex.meth ?z9he ?_); (case z9he => exact rfl)) | (with_reducible intro a9)))
  all_goals (with_reducible refine Fin.mk (by ki_room) (by ki_room) ?_)
  refine .mk ?_
  kd_in
theorem row_step {w : World} {led : Led} {a : Addr} {q : PE} (Op : OpRowC w) (H : RowIH w q.size) (R : PatIn led a q) : RD w (6 * q.size) (rowFn q) [.ref a] led (O_row q.row) := by
  cases R
  all_goals
    simp only [PE.size] at H
    dsimp only [rowFn, PE.size]
    refine RD.enterPos (binds := [("self", .ref _)]) (by omega) (by kas_ty) ?_
    intro G all hw hs hn sub
    (repeat' (first | ((with_reducible refine' Ex.attrX ?z9hs ?z9hv ?z9hn ?z9m1 ?z9m2 ?z9hD ?z9hl ?z9hh ?_); (case z9hs => assumption); (case z9hv => ksk_a2); (case z9hn => kernel_rfl); (case z9m1 => ksk_a2); (case z9m2 => ksk_a2); (case z9hD => kernel_rfl!); (case z9hl => k_get); (case z9hh => first | exact rfl | k_handed)) | ((with_reducible refine' Ga.node ?z9m1 ?z9m2 ?z9hD ?z9hx ?z9hl ?z9hv ?_); (case z9m1 => ksk_a2); (case z9m2 => ksk_a2); (case z9hD => kernel_rfl!); (case z9hx => kernel_rfl!); (case z9hl => k_get); (case z9hv => first | exact rfl | k_handed)) | ((with_reducible refine' Ca.rd ?z9hw ?z9hn ?z9C ?z9sb ?_); (case z9C => first | with_reducible exact RowIH.use H (by assumption) (by omega)); (case z9hw => assumption); (case z9hn => first | assumption | exact Nat.le_trans (Nat.le_of_ble_eq_true rfl) (by assumption) | omega); (case z9sb => k_units); intro v9 tl9 sb9 o9; cases o9) | ((with_reducible refine' Ca.rows ?z9m ?z9hz ?z9hn ?_); (case z9m => ksk_a2); (case z9hz => exact Nat.le_of_ble_eq_true rfl); (case z9hn => omega)) | ((with_reducible refine' MapC.cons (FRow.mk ?z9H ?z9hw ?z9hn ?z9C ?z9sb ?_)); (case z9hw => assumption); (case z9C => exact RowIH.use H (by assumption) (by omega)); (case z9H => (refine' PatIn.rowIn ?z9R1 ?z9S1; (case z9R1 => assumption); (case z9S1 => k_units))); (case z9hn => omega); (case z9sb => k_units); intro r9 tl9 sb9 o9; cases o9; (refine' ⟨?z9m, ?_⟩; (case z9m => ksk_a2))) | ((with_reducible refine' MapC.cons (FRow.mk ?z9H ?z9hw ?z9hn ?z9C ?z9sb ?_)); (case z9hw => assumption); (case z9C => exact OpRowC.use Op (by with_reducible assumption) (by with_reducible assumption)); (case z9H => exact HasRow.of (by ksk_a2) (by ksk_a2) (by kernel_rfl!) (by kernel_rfl!)); (case z9hn => omega); (case z9sb => k_units); intro r9 tl9 sb9 o9; cases o9; (refine' ⟨?z9m, ?_⟩; (case z9m => ksk_a2))) | ((with_reducible refine' MapC.nil ?_); (try intro D9); (try intro T9)) | ((with_reducible refine' Gm.row ?z9H ?_); (case z9H => (refine' PatIn.rowIn ?z9R1 ?z9S1; (case z9R1 => assumption); (case z9S1 => k_units)))) | ((with_reducible refine' Cw.m0 ?z9hf ?_); (case z9hf => first | with_reducible exact keepRow _ _ | k_is)) | ((with_reducible refine' Exs.nil ?_)) | ((with_reducible refine' Exs.str ?_); intro t9) | ((with_reducible refine' Exs.cons ?z9hp ?_); (case z9hp => exact rfl)) | ((with_reducible refine' Ex.callFX ?z9hs ?z9hg ?z9hf ?z9hn ?_); (case z9hs => assumption); (case z9hg => k_is); (case z9hf => k_is); (case z9hn => kernel_rfl)) | ((with_reducible refine' Ex.tup ?z9hz ?_); (case z9hz => exact rfl)) | ((with_reducible refine' Ss.ret ?_)) | ((with_reducible refine' Ex.meth ?z9he ?_); (case z9he => exact rfl)) | (with_reducible intro a9)))
  all_goals (with_reducible refine Fin.mk (by ki_room) (by ki_room) ?_)
  all_goals (refine .mk ?_; dsimp only [PE.row]; kd_in)
theorem row_all {w : World} (Op : OpRowC w) : RowAll w := by
  intro k
  induction k with
  | zero => exact fun p h => absurd h (Nat.not_lt_zero _)
  | succ k ih =>
    intro p h led a R
    exact row_step Op (fun p' h' => ih p' (Nat.lt_of_lt_of_le h' (Nat.le_of_lt_succ h))) R
theorem atom_c {w : World} (Mk : Mks w) (Tk : TakeC w) : AtomC w := by
  intro S
  refine BX.enter (binds := [("source", .ref S)]) (by kas_ty) ?_
  intro G all hw hs hn hS sub
  (repeat' (first | ((with_reducible refine' Ca.i1 ?z9hw ?z9hn ?z9C ?_); (case z9C => first | with_reducible exact Mk.c_tup _ | with_reducible exact Mk.c_paren _); (case z9hw => assumption); (case z9hn => first | assumption | exact Nat.le_trans (Nat.le_of_ble_eq_true rfl) (by assumption) | omega); intro tl9 a9 d9 n9 h09 h19 t09 t19 m9 m9) | ((with_reducible refine' Ca.i2 ?z9hw ?z9hn ?z9C ?_); (case z9C => first | with_reducible exact Mk.c_lit _ _ | with_reducible exact Mk.c_app _ _); (case z9hw => assumption); (case z9hn => first | assumption | exact Nat.le_trans (Nat.le_of_ble_eq_true rfl) (by assumption) | omega); intro tl9 a9 d9 n9 h09 h19 h29 t09 t19 t29 m9 m9) | ((with_reducible refine' Ca.l1 ?z9hw ?z9hn ?z9C ?_); (case z9C => first | with_reducible exact Mk.c_con _ | with_reducible exact Mk.c_var _); (case z9hw => assumption); (case z9hn => first | assumption | exact Nat.le_trans (Nat.le_of_ble_eq_true rfl) (by assumption) | omega); intro tl9 a9 d9 n9 h09 h19 h29 t09 t19 t29 u9 m9 m9) | ((with_reducible refine' Ca.t5 @Tk ?z9hw ?z9hn ?z9hS ?_ ?_ ?_ ?_ ?_); (case z9hw => assumption); (case z9hn => first | assumption | exact Nat.le_trans (Nat.le_of_ble_eq_true rfl) (by assumption) | omega); (case z9hS => assumption) <;> intro t9) | ((with_reducible refine' Exs.locX ?z9hs ?z9hv ?z9hn ?_); (case z9hs => assumption); (case z9hv => ksk_a2); (case z9hn => kernel_rfl)) | ((with_reducible refine' Exs.nil ?_)) | ((with_reducible refine' Exs.int ?_); intro t9) | ((with_reducible refine' Exs.str ?_); intro t9) | ((with_reducible refine' Exs.cons ?z9hp ?_); (case z9hp => exact rfl)) | ((with_reducible refine' Ex.callFX ?z9hs ?z9hg ?z9hf ?z9hn ?_); (case z9hs => assumption); (case z9hg => k_is); (case z9hf => k_is); (case z9hn => kernel_rfl)) | ((with_reducible refine' Ex.tup ?z9hz ?_); (case z9hz => exact rfl)) | ((with_reducible refine' Ex.lst ?z9hz ?_); (case z9hz => exact rfl)) | ((with_reducible refine' Ss.ret ?_)) | ((with_reducible refine' Ss.iteR ?_)) | ((with_reducible refine' Ss.iteN ?_)) | ((with_reducible refine' Ss.asg ?z9hs ?z9hk ?z9hw ?z9hx ?_); (case z9hs => assumption); (case z9hk => kernel_rfl!); (case z9hw => (intro _; exact rfl)); (case z9hx => kernel_rfl!)) | ((with_reducible refine' Te.eqXI (c := true) ?z9hs ?z9hv ?z9hk ?z9hd ?z9hc ?_); (case z9hs => assumption); (case z9hv => ksk_a2); (case z9hk => kernel_rfl!); (case z9hd => kernel_rfl); (case z9hc => first | assumption | kernel_rfl!)) | ((with_reducible refine' Te.eqXI (c := false) ?z9hs ?z9hv ?z9hk ?z9hd ?z9hc ?_); (case z9hs => assumption); (case z9hv => ksk_a2); (case z9hk => kernel_rfl!); (case z9hd => kernel_rfl); (case z9hc => first | assumption | kernel_rfl!)) | (with_reducible intro a9)))
  all_goals with_reducible refine Fin.mkB (by ki_room) ?_
  · exact .mk (p := .lit "int" 7) (by ksk_a2) (.lit (by ksk_a2) (by ksk_a2)) (by (dsimp only [PE.row]; kd_in)) (.head _)
  · exact .mk (p := .con "Nil") (by ksk_a2) (.con (by ksk_a2) (by ksk_a2)) (by (dsimp only [PE.row]; kd_in)) (.tail _ (.head _))
  · exact .mk (p := .paren (.app "Just" (.var "y"))) (by ksk_a2) (.paren (by ksk_a2) (by ksk_a2) (.app (by ksk_a2) (by ksk_a2) (by ksk_a2) (by ksk_a2) (.var (by ksk_a2) (by ksk_a2) (.tail _ (.head _))))) (by (dsimp only [PE.row]; kd_in)) (.tail _ (.tail _ (.head _)))
  · exact .mk (p := .tup (.var "a") (.chr "char" "c")) (by ksk_a2) (.tup (by ksk_a2) (by ksk_a2) (by ksk_a2) (.var (by ksk_a2) (by ksk_a2) (.tail _ (.tail _ (.head _)))) (.chr (by ksk_a2) (by ksk_a2))) (by (dsimp only [PE.row]; kd_in)) (.tail _ (.tail _ (.tail _ (.head _))))
  · exact .mk (p := .var "x") (by ksk_a2) (.var (by ksk_a2) (by ksk_a2) (.head _)) (by (dsimp only [PE.row]; kd_in)) (.tail _ (.tail _ (.tail _ (.tail _ (.head _)))))
theorem one_c {w : World} (Tk : TakeC w) : OneC w := by
  refine ⟨?_, ?_⟩
  · intro S l a9 b9 ta tb n
    refine BX.enter (binds := [("source", .ref S), ("things", .ref l)]) (by kas_ty) ?_
    intro G all hw hs hn hS sub
    have ml := sub _ (.head _)
    (repeat' (first | ((with_reducible refine' Ca.t2 @Tk ?z9hw ?z9hn ?z9hS ?_ ?_); (case z9hw => assumption); (case z9hn => first | assumption | exact Nat.le_trans (Nat.le_of_ble_eq_true rfl) (by assumption) | omega); (case z9hS => assumption) <;> intro t9) | ((with_reducible refine' Ca.t4 @Tk ?z9hw ?z9hn ?z9hS ?_ ?_ ?_ ?_); (case z9hw => assumption); (case z9hn => first | assumption | exact Nat.le_trans (Nat.le_of_ble_eq_true rfl) (by assumption) | omega); (case z9hS => assumption) <;> intro t9) | ((with_reducible refine' Exs.locX ?z9hs ?z9hv ?z9hn ?_); (case z9hs => assumption); (case z9hv => ksk_a2); (case z9hn => kernel_rfl)) | ((with_reducible refine' Exs.nil ?_)) | ((with_reducible refine' Exs.cons ?z9hp ?_); (case z9hp => exact rfl)) | ((with_reducible refine' Ex.locX ?z9hs ?z9hv ?z9hn ?_); (case z9hs => assumption); (case z9hv => ksk_a2); (case z9hn => kernel_rfl)) | ((with_reducible refine' Ex.callFX ?z9hs ?z9hg ?z9hf ?z9hn ?_); (case z9hs => assumption); (case z9hg => k_is); (case z9hf => k_is); (case z9hn => kernel_rfl)) | ((with_reducible refine' Ss.ret ?_)) | ((with_reducible refine' Ex.sub ?_)) | ((with_reducible refine' Ex.callB ?z9hs ?z9hg ?z9hv ?z9hm ?z9hk ?z9hd ?z9hp ?_); (case z9hs => assumption); (case z9hg => k_is); (case z9hv => boot_fast); (case z9hm => decide); (case z9hk => kernel_rfl!); (case z9hd => kernel_rfl); (case z9hp => exact rfl)) | ((with_reducible refine' Ca.len ?z9m ?z9hk ?z9hz ?_); (case z9m => ksk_a2); (case z9hk => first | (exact len_lit (k := 2) (ki := 2) rfl rfl) | (exact len_lit (k := 1) (ki := 1) rfl rfl) | (exact len_lit (k := 3) (ki := 3) rfl rfl) | (exact len_lit (k := 4) (ki := 4) rfl rfl) | (exact len_lit (k := 0) (ki := 0) rfl rfl) | (exact len_lit (k := 5) (ki := 5) rfl rfl) | (exact len_lit (k := 6) (ki := 6) rfl rfl) | (exact len_lit (k := 7) (ki := 7) rfl rfl) | (exact len_lit (k := 8) (ki := 8) rfl rfl) | (exact len_lit (k := 9) (ki := 9) rfl rfl) | exact ⟨rfl, rfl⟩); (case z9hz => first | exact Nat.le_of_ble_eq_true rfl | omega); intro t9) | ((with_reducible refine' Sb.item ?z9m ?z9ho ?z9h0 ?z9hi ?z9hx ?z9hs ?_); (case z9m => ksk_a2); (case z9ho => first | with_reducible exact SeqO.list | with_reducible exact SeqO.pair | with_reducible exact SeqO.tup); (case z9h0 => first | decide | omega); (case z9hi => first | decide | omega); (case z9hx => first | exact rfl | assumption); (case z9hs => exact rfl)) | (with_reducible intro a9)))
    all_goals with_reducible refine Fin.mkB (by ki_room) ?_
    · exact .mk (.head _)
    · exact .mk (.tail _ (.head _))
  · intro S l a9 b9 c9 d9 ta tb tc td n
    refine BX.enter (binds := [("source", .ref S), ("things", .ref l)]) (by kas_ty) ?_
    intro G all hw hs hn hS sub
    have ml := sub _ (.head _)
    (repeat' (first | ((with_reducible refine' Ca.t2 @Tk ?z9hw ?z9hn ?z9hS ?_ ?_); (case z9hw => assumption); (case z9hn => first | assumption | exact Nat.le_trans (Nat.le_of_ble_eq_true rfl) (by assumption) | omega); (case z9hS => assumption) <;> intro t9) | ((with_reducible refine' Ca.t4 @Tk ?z9hw ?z9hn ?z9hS ?_ ?_ ?_ ?_); (case z9hw => assumption); (case z9hn => first | assumption | exact Nat.le_trans (Nat.le_of_ble_eq_true rfl) (by assumption) | omega); (case z9hS => assumption) <;> intro t9) | ((with_reducible refine' Exs.locX ?z9hs ?z9hv ?z9hn ?_); (case z9hs => assumption); (case z9hv => ksk_a2); (case z9hn => kernel_rfl)) | ((with_reducible refine' Exs.nil ?_)) | ((with_reducible refine' Exs.cons ?z9hp ?_); (case z9hp => exact rfl)) | ((with_reducible refine' Ex.locX ?z9hs ?z9hv ?z9hn ?_); (case z9hs => assumption); (case z9hv => ksk_a2); (case z9hn => kernel_rfl)) | ((with_reducible refine' Ex.callFX ?z9hs ?z9hg ?z9hf ?z9hn ?_); (case z9hs => assumption); (case z9hg => k_is); (case z9hf => k_is); (case z9hn => kernel_rfl)) | ((with_reducible refine' Ss.ret ?_)) | ((with_reducible refine' Ex.sub ?_)) | ((with_reducible refine' Ex.callB ?z9hs ?z9hg ?z9hv ?z9hm ?z9hk ?z9hd ?z9hp ?_); (case z9hs => assumption); (case z9hg => k_is); (case z9hv => boot_fast); (case z9hm => decide); (case z9hk => kernel_rfl!); (case z9hd => kernel_rfl); (case z9hp => exact rfl)) | ((with_reducible refine' Ca.len ?z9m ?z9hk ?z9hz ?_); (case z9m => ksk_a2); (case z9hk => first | (exact len_lit (k := 2) (ki := 2) rfl rfl) | (exact len_lit (k := 1) (ki := 1) rfl rfl) | (exact len_lit (k := 3) (ki := 3) rfl rfl) | (exact len_lit (k := 4) (ki := 4) rfl rfl) | (exact len_lit (k := 0) (ki := 0) rfl rfl) | (exact len_lit (k := 5) (ki := 5) rfl rfl) | (exact len_lit (k := 6) (ki := 6) rfl rfl) | (exact len_lit (k := 7) (ki := 7) rfl rfl) | (exact len_lit (k := 8) (ki := 8) rfl rfl) | (exact len_lit (k := 9) (ki := 9) rfl rfl) | exact ⟨rfl, rfl⟩); (case z9hz => first | exact Nat.le_of_ble_eq_true rfl | omega); intro t9) | ((with_reducible refine' Sb.item ?z9m ?z9ho ?z9h0 ?z9hi ?z9hx ?z9hs ?_); (case z9m => ksk_a2); (case z9ho => first | with_reducible exact SeqO.list | with_reducible exact SeqO.pair | with_reducible exact SeqO.tup); (case z9h0 => first | decide | omega); (case z9hi => first | decide | omega); (case z9hx => first | exact rfl | assumption); (case z9hs => exact rfl)) | (with_reducible intro a9)))
    all_goals with_reducible refine Fin.mkB (by ki_room) ?_
    · exact .mk (.head _)
    · exact .mk (.tail _ (.head _))
    · exact .mk (.tail _ (.tail _ (.head _)))
    · exact .mk (.tail _ (.tail _ (.tail _ (.head _))))
theorem side_c {w : World} (Mk : Mks w) (Tk : TakeC w) (On : OneC w) (At : AtomC w) : SideC w := by
  intro S
  refine BX.enter (binds := [("source", .ref S)]) (by kas_ty) ?_
  intro G all hw hs hn hS sub
  (repeat' (first | ((with_reducible refine' Ca.i2 ?z9hw ?z9hn ?z9C ?_); (case z9C => first | with_reducible exact Mk.c_op _ _ | with_reducible exact Mk.c_lit _ _); (case z9hw => assumption); (case z9hn => first | assumption | exact Nat.le_trans (Nat.le_of_ble_eq_true rfl) (by assumption) | omega); intro tl9 a9 d9 n9 h09 h19 h29 t09 t19 t29 m9 m9) | ((with_reducible refine' Ca.tz @Tk ?z9hw ?z9hn ?z9hS ?z9h1 ?z9h2 ?_ ?_); (case z9hw => assumption); (case z9hn => first | assumption | exact Nat.le_trans (Nat.le_of_ble_eq_true rfl) (by assumption) | omega); (case z9hS => assumption); (case z9h1 => decide); (case z9h2 => decide) <;> intro t9 <;> (try intro d9 c9 e9)) | ((with_reducible refine' Ca.atom @At ?z9hw ?z9hn ?z9hS ?_); (case z9hw => assumption); (case z9hn => first | assumption | exact Nat.le_trans (Nat.le_of_ble_eq_true rfl) (by assumption) | omega); (case z9hS => assumption); intro tl9 D9 n9 b9 r9 p9 m9 m9 m9 c9) | ((with_reducible refine' Ca.one ?z9hw ?z9hn ?z9hS ?z9m ?z9C ?_); (case z9m => ksk_a2); (case z9C => first | exact OneC.use2 On); (case z9hw => assumption); (case z9hn => first | assumption | exact Nat.le_trans (Nat.le_of_ble_eq_true rfl) (by assumption) | omega); (case z9hS => assumption); intro x9 t9 c9) | ((with_reducible refine' Exs.locX ?z9hs ?z9hv ?z9hn ?_); (case z9hs => assumption); (case z9hv => ksk_a2); (case z9hn => kernel_rfl)) | ((with_reducible refine' Exs.nil ?_)) | ((with_reducible refine' Exs.int ?_); intro t9) | ((with_reducible refine' Exs.str ?_); intro t9) | ((with_reducible refine' Exs.bool ?_)) | ((with_reducible refine' Exs.cons ?z9hp ?_); (case z9hp => exact rfl)) | ((with_reducible refine' Ex.callFX ?z9hs ?z9hg ?z9hf ?z9hn ?_); (case z9hs => assumption); (case z9hg => k_is); (case z9hf => k_is); (case z9hn => kernel_rfl)) | ((with_reducible refine' Ex.int ?_); intro t9) | ((with_reducible refine' Ex.tup ?z9hz ?_); (case z9hz => exact rfl)) | ((with_reducible refine' Ex.lst ?z9hz ?_); (case z9hz => exact rfl)) | ((with_reducible refine' Ss.ret ?_)) | ((with_reducible refine' Ss.iteR ?_)) | ((with_reducible refine' Ss.asg ?z9hs ?z9hk ?z9hw ?z9hx ?_); (case z9hs => assumption); (case z9hk => kernel_rfl!); (case z9hw => (intro _; exact rfl)); (case z9hx => kernel_rfl!)) | ((with_reducible refine' Te.cmp ?z9hm ?_); (case z9hm => exact rfl)) | ((with_reducible refine' Cm.eqI (c := true) ?z9hc ?_); (case z9hc => first | assumption | kernel_rfl!)) | ((with_reducible refine' Cm.eqI (c := false) ?z9hc ?_); (case z9hc => first | assumption | kernel_rfl!)) | ((with_reducible refine' Cm.gtI (c := true) ?z9hc ?_); (case z9hc => first | assumption | kernel_rfl!)) | ((with_reducible refine' Cm.gtI (c := false) ?z9hc ?_); (case z9hc => first | assumption | kernel_rfl!)) | ((with_reducible refine' Ex.neg ?_); intro t9) | ((with_reducible refine' Ss.asg2 ?z9hs ?z9hx ?z9hy ?z9hw ?z9hn ?_); (case z9hs => assumption); (case z9hx => kernel_rfl!); (case z9hy => kernel_rfl!); (case z9hw => (intro _; exact rfl)); (case z9hn => (intro _; exact rfl))) | ((with_reducible refine' ⟨_, _, _, _, _, _, rfl, ?z9m, ?z9d1, ?z9d2, ?_⟩); (case z9m => ksk_a2); (case z9d1 => first | ((refine' Drp.same ?_); kernel_rfl!) | ((refine' Drp.out ?z9x ?z9y); (case z9x => repeat (first | with_reducible exact Drop.head | with_reducible apply Drop.tail)); (case z9y => kernel_rfl!))); (case z9d2 => first | ((refine' Drp.same ?_); kernel_rfl!) | ((refine' Drp.out ?z9x ?z9y); (case z9x => repeat (first | with_reducible exact Drop.head | with_reducible apply Drop.tail)); (case z9y => kernel_rfl!)))) | (with_reducible intro a9)))
  all_goals with_reducible refine Fin.mkB (by ki_room) ?_
  · exact .mk (p := .neg) (by ksk_a2) (by ksk_a2) (.neg (by ksk_a2) (by ksk_a2) (by ksk_a2) (by ksk_a2)) (by (dsimp only [PE.row]; kd_in)) (Nat.le_of_ble_eq_true rfl)
  · exact .mk (p := .two _ _ _) (by ksk_a2) (by ksk_a2) (.two (by ksk_a2) (by ksk_a2) (PIn.mono (by assumption) (by k_units)) (PIn.mono (by assumption) (by k_units)) (by assumption) (by assumption) (by assumption)) (by (dsimp only [PE.row]; kd_in)) (Nat.le_of_ble_eq_true rfl)
  · exact .mk (by ksk_a2) (by ksk_a2) (.one (PIn.mono (by assumption) (by k_units)) (by assumption)) (by (refine DatIn.mono ?s9 (by assumption); (case s9 => k_units))) (Nat.le_of_ble_eq_true rfl)
theorem oper_c {w : World} (Mk : Mks w) (Tk : TakeC w) (On : OneC w) (Si : SideC w) : OperC w := by
  intro S
  refine BX.enter (binds := [("source", .ref S)]) (by kas_ty) ?_
  intro G all hw hs hn hS sub
  (repeat' (first | ((with_reducible refine' Ca.i1 ?z9hw ?z9hn ?z9C ?_); (case z9C => first | with_reducible exact Mk.c_infix _); (case z9hw => assumption); (case z9hn => first | assumption | exact Nat.le_trans (Nat.le_of_ble_eq_true rfl) (by assumption) | omega); intro tl9 a9 d9 n9 h09 h19 t09 t19 m9 m9) | ((with_reducible refine' Ca.i2 ?z9hw ?z9hn ?z9C ?_); (case z9C => first | with_reducible exact Mk.c_op _ _); (case z9hw => assumption); (case z9hn => first | assumption | exact Nat.le_trans (Nat.le_of_ble_eq_true rfl) (by assumption) | omega); intro tl9 a9 d9 n9 h09 h19 h29 t09 t19 t29 m9 m9) | ((with_reducible refine' Ca.l1 ?z9hw ?z9hn ?z9C ?_); (case z9C => first | with_reducible exact Mk.c_var _); (case z9hw => assumption); (case z9hn => first | assumption | exact Nat.le_trans (Nat.le_of_ble_eq_true rfl) (by assumption) | omega); intro tl9 a9 d9 n9 h09 h19 h29 t09 t19 t29 u9 m9 m9) | ((with_reducible refine' Ca.side @Si ?z9hw ?z9hn ?z9hS ?_); (case z9hw => assumption); (case z9hn => first | assumption | exact Nat.le_trans (Nat.le_of_ble_eq_true rfl) (by assumption) | omega); (case z9hS => assumption); intro tl9 D9 n9 l9 k9 vs9 r9 p9 m9 m9 m9 m9 c9) | ((with_reducible refine' Ca.one ?z9hw ?z9hn ?z9hS ?z9m ?z9C ?_); (case z9m => ksk_a2); (case z9C => first | exact OneC.use4 On); (case z9hw => assumption); (case z9hn => first | assumption | exact Nat.le_trans (Nat.le_of_ble_eq_true rfl) (by assumption) | omega); (case z9hS => assumption); intro x9 t9 c9) | ((with_reducible refine' Ca.tz @Tk ?z9hw ?z9hn ?z9hS ?z9h1 ?z9h2 ?_ ?_); (case z9hw => assumption); (case z9hn => first | assumption | exact Nat.le_trans (Nat.le_of_ble_eq_true rfl) (by assumption) | omega); (case z9hS => assumption); (case z9h1 => decide); (case z9h2 => decide) <;> intro t9 <;> (try intro d9 c9 e9)) | ((with_reducible refine' Exs.locX ?z9hs ?z9hv ?z9hn ?_); (case z9hs => assumption); (case z9hv => ksk_a2); (case z9hn => kernel_rfl)) | ((with_reducible refine' Exs.nil ?_)) | ((with_reducible refine' Exs.int ?_); intro t9) | ((with_reducible refine' Exs.str ?_); intro t9) | ((with_reducible refine' Exs.bool ?_)) | ((with_reducible refine' Exs.cons ?z9hp ?_); (case z9hp => exact rfl)) | ((with_reducible refine' Ex.locX ?z9hs ?z9hv ?z9hn ?_); (case z9hs => assumption); (case z9hv => ksk_a2); (case z9hn => kernel_rfl)) | ((with_reducible refine' Ex.callFX ?z9hs ?z9hg ?z9hf ?z9hn ?_); (case z9hs => assumption); (case z9hg => k_is); (case z9hf => k_is); (case z9hn => kernel_rfl)) | ((with_reducible refine' Ex.int ?_); intro t9) | ((with_reducible refine' Ex.str ?_); intro t9) | ((with_reducible refine' Ex.tup ?z9hz ?_); (case z9hz => exact rfl)) | ((with_reducible refine' Ex.lst ?z9hz ?_); (case z9hz => exact rfl)) | ((with_reducible refine' Ss.ret ?_)) | ((with_reducible refine' Ss.iteN ?_)) | ((with_reducible refine' Ss.asg ?z9hs ?z9hk ?z9hw ?z9hx ?_); (case z9hs => assumption); (case z9hk => kernel_rfl!); (case z9hw => (intro _; exact rfl)); (case z9hx => kernel_rfl!)) | ((with_reducible refine' Ss.asgU ?z9hs ?z9hk ?z9hw ?z9hdr ?z9hx ?_); (case z9hs => assumption); (case z9hk => kernel_rfl!); (case z9hw => (intro _; exact rfl)); (case z9hdr => repeat (first | with_reducible exact Drop.head | with_reducible apply Drop.tail)); (case z9hx => kernel_rfl!)) | ((with_reducible refine' Ss.nil ?_)) | ((with_reducible refine' Te.eqXSx ?z9hs ?z9hv ?z9hk ?z9hd ?_ ?_); (case z9hs => assumption); (case z9hv => ksk_a2); (case z9hk => kernel_rfl!); (case z9hd => kernel_rfl) <;> intro c9) | ((with_reducible refine' Te.cmp ?z9hm ?_); (case z9hm => exact rfl)) | ((with_reducible refine' Cm.eqI (c := true) ?z9hc ?_); (case z9hc => first | assumption | kernel_rfl!)) | ((with_reducible refine' Cm.eqI (c := false) ?z9hc ?_); (case z9hc => first | assumption | kernel_rfl!)) | ((with_reducible refine' Ex.bin ?_)) | ((with_reducible refine' Bi.cat ?z9ma ?z9mb ?z9hz ?_); (case z9ma => ksk_a2); (case z9mb => ksk_a2); (case z9hz => first | exact Nat.le_of_ble_eq_true rfl | (simp only [List.length_append, List.length_cons, List.length_nil]; omega)); intro D9) | ((with_reducible refine' Ss.asg2 ?z9hs ?z9hx ?z9hy ?z9hw ?z9hn ?_); (case z9hs => assumption); (case z9hx => kernel_rfl!); (case z9hy => kernel_rfl!); (case z9hw => (intro _; exact rfl)); (case z9hn => (intro _; exact rfl))) | ((with_reducible refine' Ss.asg2s ?z9hs ?z9hx ?z9hy ?z9hw ?z9hn ?_); (case z9hs => assumption); (case z9hx => kernel_rfl!); (case z9hy => kernel_rfl!); (case z9hw => (intro _; exact rfl)); (case z9hn => (intro _ _ _ _ _; kernel_rfl!))) | ((with_reducible refine' ⟨_, _, _, _, _, _, rfl, ?z9m, ?z9d1, ?z9d2, ?_⟩); (case z9m => ksk_a2); (case z9d1 => first | ((refine' Drp.same ?_); kernel_rfl!) | ((refine' Drp.out ?z9x ?z9y); (case z9x => repeat (first | with_reducible exact Drop.head | with_reducible apply Drop.tail)); (case z9y => kernel_rfl!))); (case z9d2 => first | ((refine' Drp.same ?_); kernel_rfl!) | ((refine' Drp.out ?z9x ?z9y); (case z9x => repeat (first | with_reducible exact Drop.head | with_reducible apply Drop.tail)); (case z9y => kernel_rfl!)))) | (with_reducible intro a9)))
  all_goals with_reducible refine Fin.mkB (by ki_room) ?_
  · exact .mk (due := .bad) (by ksk_a2) (.operTwo (.mk (by ksk_a2) (by ksk_a2) (by ksk_a2) (SideIn.mono (by assumption) (by k_units)) (SideIn.mono (by assumption) (by k_units)) (.mk (by ksk_a2) (by ksk_a2)) (.yes (.mk (by ksk_a2) (by ksk_a2)) (.mk (by ksk_a2) (by ksk_a2))))) (.bad)
  · exact .mk (due := .bad) (by ksk_a2) (.operBad (.mk0 (by ksk_a2) (by ksk_a2) (by ksk_a2) (SideIn.mono (by assumption) (by k_units)) (SideIn.mono (by assumption) (by k_units)) (.mk (by ksk_a2) (by ksk_a2))) (by assumption)) (.bad)
  · exact .mk (due := .bad) (by ksk_a2) (.operTwo (.mk (by ksk_a2) (by ksk_a2) (by ksk_a2) (SideIn.mono (by assumption) (by k_units)) (SideIn.mono (by assumption) (by k_units)) (.mk (by ksk_a2) (by ksk_a2)) (.yes (.mk (by ksk_a2) (by ksk_a2)) (.mk (by ksk_a2) (by ksk_a2))))) (.bad)
  · exact .mk (due := .fn _ [_, _]) (by ksk_a2) (.oper (.mk0 (by ksk_a2) (by ksk_a2) (by ksk_a2) (SideIn.mono (by assumption) (by k_units)) (SideIn.mono (by assumption) (by k_units)) (.mk (by ksk_a2) (by ksk_a2))) (by assumption) (by assumption)) (.fn (by ksk_a2) (by ksk_a2) (.cons (by kd_in) (.cons (by kd_in) .nil)) (ok1 (SideIn.ok (by assumption)) (ok1 (SideIn.ok (by assumption)) ok0)) (strOk_oper (by assumption)))
def NJ (S : Addr) (x : Str) (tn : Tok) (all : Led) (i : Nat) (ρ : Rho) (led : Led) : Prop :=
  ∃ e D n l kl t rs ps tl, ρ = [(("due" : Str), Value.ref D), (("expr" : Str), Value.ref e), (("name" : Str), Value.str x tn), (("source" : Str), Value.ref S)] ∧ led = tl ++ all ∧ NamedIn tl e x ps ∧ (D, pair (.str x t) (.ref l) n) ∈ tl ∧ (l, listOf rs.toArray kl) ∈ tl ∧
    DatAll tl rs (ps.map PE.row) ∧ (∀ p ∈ ps, Ok p) ∧ ps.length = i ∧ rs.length = i
theorem nj_step {S : Addr} {x : Str} {tn t : Tok} {all tl tl0 tl9 led : Led} {i : Nat} {e e0 b D l : Addr} {n kl : Nat} {rs : List Value} {row : Value} {ps : List PE} {p : PE} (hN : NamedIn tl0 e0 x ps) (sub : ∀ q ∈ tl0, q ∈ tl) (ha : AppAt tl e e0 b) (hp : PIn tl9 b p) (sub9 : ∀ q ∈ tl9, q ∈ tl)
    (m1 : (D, pair (.str x t) (.ref l) n) ∈ tl) (m2 : (l, listOf (rs ++ [row]).toArray kl) ∈ tl) (dA : DatAll tl0 rs (ps.map PE.row)) (dR : DatIn tl9 row p.row) (oks : ∀ p ∈ ps, Ok p) (okp : p ∈ PE.atoms) (h1 : ps.length = i) (h2 : rs.length = i) (hi : i < 3) (hl : Split all led tl) : NJ S x tn all (i + 1) [(("due" : Str), Value.ref D), (("expr" : Str), Value.ref e), (("name" : Str), Value.str x tn), (("source" : Str), Value.ref S)] led := by
  refine ⟨e, D, n, l, kl, t, rs ++ [row], ps ++ [p], tl, rfl, hl.eq, (hN.mono sub).snoc ha (hp.mono sub9) (by omega), m1, m2, ?_, ?_, by simp [h1], by simp [h2]⟩
  · rw [List.map_append]
    exact datAll_snoc (dR.mono sub9) (dA.mono sub)
  · intro q hq
    exact (List.mem_append.mp hq).elim (oks q) fun h => (List.mem_singleton.mp h) ▸ Ok.atom okp
theorem nj_start {S : Addr} {x : Str} {tn t : Tok} {all tl led : Led} {e D l : Addr} {n kl : Nat} (hl : Split all led tl) (v : VarAt tl e x) (m1 : (D, pair (.str x t) (.ref l) n) ∈ tl) (m2 : (l, listOf #[] kl) ∈ tl) : NJ S x tn all 0 [(("due" : Str), Value.ref D), (("expr" : Str), Value.ref e), (("name" : Str), Value.str x tn), (("source" : Str), Value.ref S)] led :=
  ⟨e, D, n, l, kl, t, [], [], tl, rfl, hl.eq, .n0 v, m1, m2, .nil, fun _ h => (nomatch h), rfl, rfl⟩
theorem named_c {w : World} (Mk : Mks w) (Tk : TakeC w) (On : OneC w) (At : AtomC w) : NamedC w := by
  intro S
  refine BX.enter (binds := [("source", .ref S)]) (by kas_ty) ?_
  intro G all hw hs hn hS sub
  (repeat' (first | ((with_reducible refine' Ca.one ?z9hw ?z9hn ?z9hS ?z9m ?z9C ?_); (case z9m => ksk_a2); (case z9C => first | exact OneC.use4 On); (case z9hw => assumption); (case z9hn => first | assumption | exact Nat.le_trans (Nat.le_of_ble_eq_true rfl) (by assumption) | omega); (case z9hS => assumption); intro x9 t9 c9) | ((with_reducible refine' Ca.i2 ?z9hw ?z9hn ?z9C ?_); (case z9C => first | with_reducible exact Mk.c_app _ _); (case z9hw => assumption); (case z9hn => first | assumption | exact Nat.le_trans (Nat.le_of_ble_eq_true rfl) (by assumption) | omega); intro tl9 a9 d9 n9 h09 h19 h29 t09 t19 t29 m9 m9) | ((with_reducible refine' Ca.l1 ?z9hw ?z9hn ?z9C ?_); (case z9C => first | with_reducible exact Mk.c_var _); (case z9hw => assumption); (case z9hn => first | assumption | exact Nat.le_trans (Nat.le_of_ble_eq_true rfl) (by assumption) | omega); intro tl9 a9 d9 n9 h09 h19 h29 t09 t19 t29 u9 m9 m9) | ((with_reducible refine' Ca.atom @At ?z9hw ?z9hn ?z9hS ?_); (case z9hw => assumption); (case z9hn => first | assumption | exact Nat.le_trans (Nat.le_of_ble_eq_true rfl) (by assumption) | omega); (case z9hS => assumption); intro tl9 D9 n9 b9 r9 p9 m9 m9 m9 c9) | ((with_reducible refine' Ca.take @Tk ?z9hw ?z9hn ?z9hS ?z9h1 ?z9h2 ?_); (case z9hw => assumption); (case z9hn => first | assumption | exact Nat.le_trans (Nat.le_of_ble_eq_true rfl) (by assumption)); (case z9hS => assumption); (case z9h1 => decide); (case z9h2 => decide); intro d9 t9 e9 f9) | ((with_reducible refine' Ss.forR (NJ S _ _ all) ?z9hs ?z9hx ?z9hg ?z9hv ?z9hm ?z9hk ?z9hd ?z9hp ?_ ?z9hf); (case z9hs => assumption); (case z9hx => kernel_rfl!); (case z9hg => k_is); (case z9hv => boot_fast); (case z9hm => decide); (case z9hk => kernel_rfl!); (case z9hd => kernel_rfl); (case z9hp => exact rfl); (case z9hf => (intro _ _; exact rfl))) | ((with_reducible refine' Exs.locX ?z9hs ?z9hv ?z9hn ?_); (case z9hs => assumption); (case z9hv => ksk_a2); (case z9hn => kernel_rfl)) | ((with_reducible refine' Exs.nil ?_)) | ((with_reducible refine' Exs.int ?_); intro t9) | ((with_reducible refine' Exs.str ?_); intro t9) | ((with_reducible refine' Exs.cons ?z9hp ?_); (case z9hp => exact rfl)) | ((with_reducible refine' Ex.locX ?z9hs ?z9hv ?z9hn ?_); (case z9hs => assumption); (case z9hv => ksk_a2); (case z9hn => kernel_rfl)) | ((with_reducible refine' Ex.callFX ?z9hs ?z9hg ?z9hf ?z9hn ?_); (case z9hs => assumption); (case z9hg => k_is); (case z9hf => k_is); (case z9hn => kernel_rfl)) | ((with_reducible refine' Ex.int ?_); intro t9) | ((with_reducible refine' Ex.str ?_); intro t9) | ((with_reducible refine' Ex.tup ?z9hz ?_); (case z9hz => exact rfl)) | ((with_reducible refine' Ex.lst ?z9hz ?_); (case z9hz => exact rfl)) | ((with_reducible refine' Ss.ret ?_)) | ((with_reducible refine' Ss.asg ?z9hs ?z9hk ?z9hw ?z9hx ?_); (case z9hs => assumption); (case z9hk => kernel_rfl!); (case z9hw => (intro _; exact rfl)); (case z9hx => kernel_rfl!)) | ((with_reducible refine' Ss.nil ?_)) | ((with_reducible refine' Te.eqXSx ?z9hs ?z9hv ?z9hk ?z9hd ?_ ?_); (case z9hs => assumption); (case z9hv => ksk_a2); (case z9hk => kernel_rfl!); (case z9hd => kernel_rfl) <;> intro c9) | ((with_reducible refine' Ex.bin ?_)) | ((with_reducible refine' Ex.sub ?_)) | ((with_reducible refine' Ex.ifexp ?_)) | ((with_reducible refine' Bi.cat ?z9ma ?z9mb ?z9hz ?_); (case z9ma => ksk_a2); (case z9mb => ksk_a2); (case z9hz => first | exact Nat.le_of_ble_eq_true rfl | (simp only [List.length_append, List.length_cons, List.length_nil]; omega)); intro D9) | ((with_reducible refine' Sb.item ?z9m ?z9ho ?z9h0 ?z9hi ?z9hx ?z9hs ?_); (case z9m => ksk_a2); (case z9ho => first | with_reducible exact SeqO.list | with_reducible exact SeqO.pair | with_reducible exact SeqO.tup); (case z9h0 => first | decide | omega); (case z9hi => first | decide | omega); (case z9hx => first | exact rfl | assumption); (case z9hs => exact rfl)) | ((with_reducible refine' Ss.asg2 ?z9hs ?z9hx ?z9hy ?z9hw ?z9hn ?_); (case z9hs => assumption); (case z9hx => kernel_rfl!); (case z9hy => kernel_rfl!); (case z9hw => (intro _; exact rfl)); (case z9hn => (intro _; exact rfl))) | ((with_reducible refine' Ss.asg2s ?z9hs ?z9hx ?z9hy ?z9hw ?z9hn ?_); (case z9hs => assumption); (case z9hx => kernel_rfl!); (case z9hy => kernel_rfl!); (case z9hw => (intro _; exact rfl)); (case z9hn => (intro _ _ _ _ _; kernel_rfl!))) | ((with_reducible refine' ⟨_, _, _, _, _, _, rfl, ?z9m, ?z9d1, ?z9d2, ?_⟩); (case z9m => ksk_a2); (case z9d1 => first | ((refine' Drp.same ?_); kernel_rfl!) | ((refine' Drp.out ?z9x ?z9y); (case z9x => repeat (first | with_reducible exact Drop.head | with_reducible apply Drop.tail)); (case z9y => kernel_rfl!))); (case z9d2 => first | ((refine' Drp.same ?_); kernel_rfl!) | ((refine' Drp.out ?z9x ?z9y); (case z9x => repeat (first | with_reducible exact Drop.head | with_reducible apply Drop.tail)); (case z9y => kernel_rfl!)))) | (with_reducible intro a9)))
  all_goals first | (refine' ⟨d9.toNat, _, ?a, ?b, ⟨_, ?c, nj_start ?d ?e ?f ?g⟩, ?turn, ?done⟩; (case d => ki_room); (case e => exact .mk (by ksk_a2) (by ksk_a2)); (case f => ksk_a2); (case g => ksk_a2); (case c => k_units)) | skip
  case a => rw [Int.toNat_of_nonneg (by assumption)]
  case b => omega
  case turn =>
    rintro i ρ' led' hi ⟨e, D, n, l, kl, t, rs, ps, tl, rfl, rfl, hN, m1, m2, dA, oks, h1, h2⟩
    refine' ⟨_, ?d1, fun t => ?_⟩
    case d1 => first | ((refine' Drp.same ?_); kernel_rfl!) | ((refine' Drp.out ?x ?y); (case x => repeat (first | with_reducible exact Drop.head | with_reducible apply Drop.tail)); (case y => kernel_rfl!))
    have hi3 : i < 3 := by omega
    have hr3 : rs.length ≤ 3 := by omega
    (repeat' (first | ((with_reducible refine' Ca.one ?z9hw ?z9hn ?z9hS ?z9m ?z9C ?_); (case z9m => ksk_a2); (case z9C => first | exact OneC.use4 On); (case z9hw => assumption); (case z9hn => first | assumption | exact Nat.le_trans (Nat.le_of_ble_eq_true rfl) (by assumption) | omega); (case z9hS => assumption); intro x9 t9 c9) | ((with_reducible refine' Ca.i2 ?z9hw ?z9hn ?z9C ?_); (case z9C => first | with_reducible exact Mk.c_app _ _); (case z9hw => assumption); (case z9hn => first | assumption | exact Nat.le_trans (Nat.le_of_ble_eq_true rfl) (by assumption) | omega); intro tl9 a9 d9 n9 h09 h19 h29 t09 t19 t29 m9 m9) | ((with_reducible refine' Ca.l1 ?z9hw ?z9hn ?z9C ?_); (case z9C => first | with_reducible exact Mk.c_var _); (case z9hw => assumption); (case z9hn => first | assumption | exact Nat.le_trans (Nat.le_of_ble_eq_true rfl) (by assumption) | omega); intro tl9 a9 d9 n9 h09 h19 h29 t09 t19 t29 u9 m9 m9) | ((with_reducible refine' Ca.atom @At ?z9hw ?z9hn ?z9hS ?_); (case z9hw => assumption); (case z9hn => first | assumption | exact Nat.le_trans (Nat.le_of_ble_eq_true rfl) (by assumption) | omega); (case z9hS => assumption); intro tl9 D9 n9 b9 r9 p9 m9 m9 m9 c9) | ((with_reducible refine' Ca.take @Tk ?z9hw ?z9hn ?z9hS ?z9h1 ?z9h2 ?_); (case z9hw => assumption); (case z9hn => first | assumption | exact Nat.le_trans (Nat.le_of_ble_eq_true rfl) (by assumption)); (case z9hS => assumption); (case z9h1 => decide); (case z9h2 => decide); intro d9 t9 e9 f9) | ((with_reducible refine' Ss.forR (NJ S _ _ all) ?z9hs ?z9hx ?z9hg ?z9hv ?z9hm ?z9hk ?z9hd ?z9hp ?_ ?z9hf); (case z9hs => assumption); (case z9hx => kernel_rfl!); (case z9hg => k_is); (case z9hv => boot_fast); (case z9hm => decide); (case z9hk => kernel_rfl!); (case z9hd => kernel_rfl); (case z9hp => exact rfl); (case z9hf => (intro _ _; exact rfl))) | ((with_reducible refine' Exs.locX ?z9hs ?z9hv ?z9hn ?_); (case z9hs => assumption); (case z9hv => ksk_a2); (case z9hn => kernel_rfl)) | ((with_reducible refine' Exs.nil ?_)) | ((with_reducible refine' Exs.int ?_); intro t9) | ((with_reducible refine' Exs.str ?_); intro t9) | ((with_reducible refine' Exs.cons ?z9hp ?_); (case z9hp => exact rfl)) | ((with_reducible refine' Ex.locX ?z9hs ?z9hv ?z9hn ?_); (case z9hs => assumption); (case z9hv => ksk_a2); (case z9hn => kernel_rfl)) | ((with_reducible refine' Ex.callFX ?z9hs ?z9hg ?z9hf ?z9hn ?_); (case z9hs => assumption); (case z9hg => k_is); (case z9hf => k_is); (case z9hn => kernel_rfl)) | ((with_reducible refine' Ex.int ?_); intro t9) | ((with_reducible refine' Ex.str ?_); intro t9) | ((with_reducible refine' Ex.tup ?z9hz ?_); (case z9hz => exact rfl)) | ((with_reducible refine' Ex.lst ?z9hz ?_); (case z9hz => exact rfl)) | ((with_reducible refine' Ss.ret ?_)) | ((with_reducible refine' Ss.asg ?z9hs ?z9hk ?z9hw ?z9hx ?_); (case z9hs => assumption); (case z9hk => kernel_rfl!); (case z9hw => (intro _; exact rfl)); (case z9hx => kernel_rfl!)) | ((with_reducible refine' Ss.nil ?_)) | ((with_reducible refine' Te.eqXSx ?z9hs ?z9hv ?z9hk ?z9hd ?_ ?_); (case z9hs => assumption); (case z9hv => ksk_a2); (case z9hk => kernel_rfl!); (case z9hd => kernel_rfl) <;> intro c9) | ((with_reducible refine' Ex.bin ?_)) | ((with_reducible refine' Ex.sub ?_)) | ((with_reducible refine' Ex.ifexp ?_)) | ((with_reducible refine' Bi.cat ?z9ma ?z9mb ?z9hz ?_); (case z9ma => ksk_a2); (case z9mb => ksk_a2); (case z9hz => first | exact Nat.le_of_ble_eq_true rfl | (simp only [List.length_append, List.length_cons, List.length_nil]; omega)); intro D9) | ((with_reducible refine' Sb.item ?z9m ?z9ho ?z9h0 ?z9hi ?z9hx ?z9hs ?_); (case z9m => ksk_a2); (case z9ho => first | with_reducible exact SeqO.list | with_reducible exact SeqO.pair | with_reducible exact SeqO.tup); (case z9h0 => first | decide | omega); (case z9hi => first | decide | omega); (case z9hx => first | exact rfl | assumption); (case z9hs => exact rfl)) | ((with_reducible refine' Ss.asg2 ?z9hs ?z9hx ?z9hy ?z9hw ?z9hn ?_); (case z9hs => assumption); (case z9hx => kernel_rfl!); (case z9hy => kernel_rfl!); (case z9hw => (intro _; exact rfl)); (case z9hn => (intro _; exact rfl))) | ((with_reducible refine' Ss.asg2s ?z9hs ?z9hx ?z9hy ?z9hw ?z9hn ?_); (case z9hs => assumption); (case z9hx => kernel_rfl!); (case z9hy => kernel_rfl!); (case z9hw => (intro _; exact rfl)); (case z9hn => (intro _ _ _ _ _; kernel_rfl!))) | ((with_reducible refine' ⟨_, _, _, _, _, _, rfl, ?z9m, ?z9d1, ?z9d2, ?_⟩); (case z9m => ksk_a2); (case z9d1 => first | ((refine' Drp.same ?_); kernel_rfl!) | ((refine' Drp.out ?z9x ?z9y); (case z9x => repeat (first | with_reducible exact Drop.head | with_reducible apply Drop.tail)); (case z9y => kernel_rfl!))); (case z9d2 => first | ((refine' Drp.same ?_); kernel_rfl!) | ((refine' Drp.out ?z9x ?z9y); (case z9x => repeat (first | with_reducible exact Drop.head | with_reducible apply Drop.tail)); (case z9y => kernel_rfl!)))) | (with_reducible intro a9)))
    refine' ⟨rfl, _, ?s, nj_step hN ?b ?c (by assumption) ?e ?f ?g dA (by assumption) oks (by assumption) h1 h2 hi3 ?h⟩
    case s => k_units
    case h => ki_room
    case b => k_units
    case c => exact .mk (by ksk_a2) (by ksk_a2)
    case e => k_units
    case f => ksk_a2
    case g => ksk_a2
  case done =>
    rintro ρ' led' ⟨e, D, n, l, kl, t, rs, ps, tl, rfl, rfl, hN, m1, m2, dA, oks, h1, h2⟩
    (repeat' (first | ((with_reducible refine' Ca.one ?z9hw ?z9hn ?z9hS ?z9m ?z9C ?_); (case z9m => ksk_a2); (case z9C => first | exact OneC.use4 On); (case z9hw => assumption); (case z9hn => first | assumption | exact Nat.le_trans (Nat.le_of_ble_eq_true rfl) (by assumption) | omega); (case z9hS => assumption); intro x9 t9 c9) | ((with_reducible refine' Ca.i2 ?z9hw ?z9hn ?z9C ?_); (case z9C => first | with_reducible exact Mk.c_app _ _); (case z9hw => assumption); (case z9hn => first | assumption | exact Nat.le_trans (Nat.le_of_ble_eq_true rfl) (by assumption) | omega); intro tl9 a9 d9 n9 h09 h19 h29 t09 t19 t29 m9 m9) | ((with_reducible refine' Ca.l1 ?z9hw ?z9hn ?z9C ?_); (case z9C => first | with_reducible exact Mk.c_var _); (case z9hw => assumption); (case z9hn => first | assumption | exact Nat.le_trans (Nat.le_of_ble_eq_true rfl) (by assumption) | omega); intro tl9 a9 d9 n9 h09 h19 h29 t09 t19 t29 u9 m9 m9) | ((with_reducible refine' Ca.atom @At ?z9hw ?z9hn ?z9hS ?_); (case z9hw => assumption); (case z9hn => first | assumption | exact Nat.le_trans (Nat.le_of_ble_eq_true rfl) (by assumption) | omega); (case z9hS => assumption); intro tl9 D9 n9 b9 r9 p9 m9 m9 m9 c9) | ((with_reducible refine' Ca.take @Tk ?z9hw ?z9hn ?z9hS ?z9h1 ?z9h2 ?_); (case z9hw => assumption); (case z9hn => first | assumption | exact Nat.le_trans (Nat.le_of_ble_eq_true rfl) (by assumption)); (case z9hS => assumption); (case z9h1 => decide); (case z9h2 => decide); intro d9 t9 e9 f9) | ((with_reducible refine' Ss.forR (NJ S _ _ all) ?z9hs ?z9hx ?z9hg ?z9hv ?z9hm ?z9hk ?z9hd ?z9hp ?_ ?z9hf); (case z9hs => assumption); (case z9hx => kernel_rfl!); (case z9hg => k_is); (case z9hv => boot_fast); (case z9hm => decide); (case z9hk => kernel_rfl!); (case z9hd => kernel_rfl); (case z9hp => exact rfl); (case z9hf => (intro _ _; exact rfl))) | ((with_reducible refine' Exs.locX ?z9hs ?z9hv ?z9hn ?_); (case z9hs => assumption); (case z9hv => ksk_a2); (case z9hn => kernel_rfl)) | ((with_reducible refine' Exs.nil ?_)) | ((with_reducible refine' Exs.int ?_); intro t9) | ((with_reducible refine' Exs.str ?_); intro t9) | ((with_reducible refine' Exs.cons ?z9hp ?_); (case z9hp => exact rfl)) | ((with_reducible refine' Ex.locX ?z9hs ?z9hv ?z9hn ?_); (case z9hs => assumption); (case z9hv => ksk_a2); (case z9hn => kernel_rfl)) | ((with_reducible refine' Ex.callFX ?z9hs ?z9hg ?z9hf ?z9hn ?_); (case z9hs => assumption); (case z9hg => k_is); (case z9hf => k_is); (case z9hn => kernel_rfl)) | ((with_reducible refine' Ex.int ?_); intro t9) | ((with_reducible refine' Ex.str ?_); intro t9) | ((with_reducible refine' Ex.tup ?z9hz ?_); (case z9hz => exact rfl)) | ((with_reducible refine' Ex.lst ?z9hz ?_); (case z9hz => exact rfl)) | ((with_reducible refine' Ss.ret ?_)) | ((with_reducible refine' Ss.asg ?z9hs ?z9hk ?z9hw ?z9hx ?_); (case z9hs => assumption); (case z9hk => kernel_rfl!); (case z9hw => (intro _; exact rfl)); (case z9hx => kernel_rfl!)) | ((with_reducible refine' Ss.nil ?_)) | ((with_reducible refine' Te.eqXSx ?z9hs ?z9hv ?z9hk ?z9hd ?_ ?_); (case z9hs => assumption); (case z9hv => ksk_a2); (case z9hk => kernel_rfl!); (case z9hd => kernel_rfl) <;> intro c9) | ((with_reducible refine' Ex.bin ?_)) | ((with_reducible refine' Ex.sub ?_)) | ((with_reducible refine' Ex.ifexp ?_)) | ((with_reducible refine' Bi.cat ?z9ma ?z9mb ?z9hz ?_); (case z9ma => ksk_a2); (case z9mb => ksk_a2); (case z9hz => first | exact Nat.le_of_ble_eq_true rfl | (simp only [List.length_append, List.length_cons, List.length_nil]; omega)); intro D9) | ((with_reducible refine' Sb.item ?z9m ?z9ho ?z9h0 ?z9hi ?z9hx ?z9hs ?_); (case z9m => ksk_a2); (case z9ho => first | with_reducible exact SeqO.list | with_reducible exact SeqO.pair | with_reducible exact SeqO.tup); (case z9h0 => first | decide | omega); (case z9hi => first | decide | omega); (case z9hx => first | exact rfl | assumption); (case z9hs => exact rfl)) | ((with_reducible refine' Ss.asg2 ?z9hs ?z9hx ?z9hy ?z9hw ?z9hn ?_); (case z9hs => assumption); (case z9hx => kernel_rfl!); (case z9hy => kernel_rfl!); (case z9hw => (intro _; exact rfl)); (case z9hn => (intro _; exact rfl))) | ((with_reducible refine' Ss.asg2s ?z9hs ?z9hx ?z9hy ?z9hw ?z9hn ?_); (case z9hs => assumption); (case z9hx => kernel_rfl!); (case z9hy => kernel_rfl!); (case z9hw => (intro _; exact rfl)); (case z9hn => (intro _ _ _ _ _; kernel_rfl!))) | ((with_reducible refine' ⟨_, _, _, _, _, _, rfl, ?z9m, ?z9d1, ?z9d2, ?_⟩); (case z9m => ksk_a2); (case z9d1 => first | ((refine' Drp.same ?_); kernel_rfl!) | ((refine' Drp.out ?z9x ?z9y); (case z9x => repeat (first | with_reducible exact Drop.head | with_reducible apply Drop.tail)); (case z9y => kernel_rfl!))); (case z9d2 => first | ((refine' Drp.same ?_); kernel_rfl!) | ((refine' Drp.out ?z9x ?z9y); (case z9x => repeat (first | with_reducible exact Drop.head | with_reducible apply Drop.tail)); (case z9y => kernel_rfl!)))) | (with_reducible intro a9)))
    all_goals with_reducible refine Fin.mkB (by ki_room) ?_
    · exact .mk (due := .bad) (by ksk_a2) (.namedBad (NamedIn.mono hN (by k_units)) (by assumption)) (.bad)
    · exact .mk (due := .fn _ _) (by ksk_a2) (.named (NamedIn.mono hN (by k_units)) (by assumption) (by assumption)) (.fn (by ksk_a2) (by ksk_a2) (by (refine DatAll.mono ?s9 dA; (case s9 => k_units))) oks (strOk_name (by assumption)))
theorem left_c {w : World} (Mk : Mks w) (Tk : TakeC w) (At : AtomC w) (Op : OperC w) (Na : NamedC w) : LeftC w := by
  intro S
  refine BX.enter (binds := [("source", .ref S)]) (by kas_ty) ?_
  intro G all hw hs hn hS sub
  (repeat' (first | ((with_reducible refine' Ca.t7 @Tk ?z9hw ?z9hn ?z9hS ?_ ?_ ?_ ?_ ?_ ?_ ?_); (case z9hw => assumption); (case z9hn => first | assumption | exact Nat.le_trans (Nat.le_of_ble_eq_true rfl) (by assumption) | omega); (case z9hS => assumption) <;> intro t9) | ((with_reducible refine' Ca.t2 @Tk ?z9hw ?z9hn ?z9hS ?_ ?_); (case z9hw => assumption); (case z9hn => first | assumption | exact Nat.le_trans (Nat.le_of_ble_eq_true rfl) (by assumption) | omega); (case z9hS => assumption) <;> intro t9) | ((with_reducible refine' Ca.atom @At ?z9hw ?z9hn ?z9hS ?_); (case z9hw => assumption); (case z9hn => first | assumption | exact Nat.le_trans (Nat.le_of_ble_eq_true rfl) (by assumption) | omega); (case z9hS => assumption); intro tl9 D9 n9 b9 r9 p9 m9 m9 m9 c9) | ((with_reducible refine' Ca.oper (OperC.use Op) ?z9hw ?z9hn ?z9hS ?_); (case z9hw => assumption); (case z9hn => first | assumption | exact Nat.le_trans (Nat.le_of_ble_eq_true rfl) (by assumption) | omega); (case z9hS => assumption); intro tl9 D9 n9 b9 v9 u9 m9 m9 m9) | ((with_reducible refine' Ca.oper (NamedC.use Na) ?z9hw ?z9hn ?z9hS ?_); (case z9hw => assumption); (case z9hn => first | assumption | exact Nat.le_trans (Nat.le_of_ble_eq_true rfl) (by assumption) | omega); (case z9hS => assumption); intro tl9 D9 n9 b9 v9 u9 m9 m9 m9) | ((with_reducible refine' Ca.i1 ?z9hw ?z9hn ?z9C ?_); (case z9C => first | with_reducible exact Mk.c_tup _ | with_reducible exact Mk.c_paren _); (case z9hw => assumption); (case z9hn => first | assumption | exact Nat.le_trans (Nat.le_of_ble_eq_true rfl) (by assumption) | omega); intro tl9 a9 d9 n9 h09 h19 t09 t19 m9 m9) | ((with_reducible refine' Ca.i2 ?z9hw ?z9hn ?z9C ?_); (case z9C => first | with_reducible exact Mk.c_app _ _); (case z9hw => assumption); (case z9hn => first | assumption | exact Nat.le_trans (Nat.le_of_ble_eq_true rfl) (by assumption) | omega); intro tl9 a9 d9 n9 h09 h19 h29 t09 t19 t29 m9 m9) | ((with_reducible refine' Ca.l1 ?z9hw ?z9hn ?z9C ?_); (case z9C => first | with_reducible exact Mk.c_con _ | with_reducible exact Mk.c_var _); (case z9hw => assumption); (case z9hn => first | assumption | exact Nat.le_trans (Nat.le_of_ble_eq_true rfl) (by assumption) | omega); intro tl9 a9 d9 n9 h09 h19 h29 t09 t19 t29 u9 m9 m9) | ((with_reducible refine' Exs.locX ?z9hs ?z9hv ?z9hn ?_); (case z9hs => assumption); (case z9hv => ksk_a2); (case z9hn => kernel_rfl)) | ((with_reducible refine' Exs.nil ?_)) | ((with_reducible refine' Exs.int ?_); intro t9) | ((with_reducible refine' Exs.str ?_); intro t9) | ((with_reducible refine' Exs.cons ?z9hp ?_); (case z9hp => exact rfl)) | ((with_reducible refine' Ex.locX ?z9hs ?z9hv ?z9hn ?_); (case z9hs => assumption); (case z9hv => ksk_a2); (case z9hn => kernel_rfl)) | ((with_reducible refine' Ex.callFX ?z9hs ?z9hg ?z9hf ?z9hn ?_); (case z9hs => assumption); (case z9hg => k_is); (case z9hf => k_is); (case z9hn => kernel_rfl)) | ((with_reducible refine' Ex.int ?_); intro t9) | ((with_reducible refine' Ex.str ?_); intro t9) | ((with_reducible refine' Ex.tup ?z9hz ?_); (case z9hz => exact rfl)) | ((with_reducible refine' Ex.lst ?z9hz ?_); (case z9hz => exact rfl)) | ((with_reducible refine' Ss.ret ?_)) | ((with_reducible refine' Ss.iteR ?_)) | ((with_reducible refine' Ss.iteN ?_)) | ((with_reducible refine' Ss.asg ?z9hs ?z9hk ?z9hw ?z9hx ?_); (case z9hs => assumption); (case z9hk => kernel_rfl!); (case z9hw => (intro _; exact rfl)); (case z9hx => kernel_rfl!)) | ((with_reducible refine' Te.eqXI (c := true) ?z9hs ?z9hv ?z9hk ?z9hd ?z9hc ?_); (case z9hs => assumption); (case z9hv => ksk_a2); (case z9hk => kernel_rfl!); (case z9hd => kernel_rfl); (case z9hc => first | assumption | kernel_rfl!)) | ((with_reducible refine' Te.eqXI (c := false) ?z9hs ?z9hv ?z9hk ?z9hd ?z9hc ?_); (case z9hs => assumption); (case z9hv => ksk_a2); (case z9hk => kernel_rfl!); (case z9hd => kernel_rfl); (case z9hc => first | assumption | kernel_rfl!)) | ((with_reducible refine' Te.ltXI (c := true) ?z9hs ?z9hv ?z9hk ?z9hd ?z9hc ?_); (case z9hs => assumption); (case z9hv => ksk_a2); (case z9hk => kernel_rfl!); (case z9hd => kernel_rfl); (case z9hc => first | assumption | kernel_rfl!)) | ((with_reducible refine' Te.ltXI (c := false) ?z9hs ?z9hv ?z9hk ?z9hd ?z9hc ?_); (case z9hs => assumption); (case z9hv => ksk_a2); (case z9hk => kernel_rfl!); (case z9hd => kernel_rfl); (case z9hc => first | assumption | kernel_rfl!)) | ((with_reducible refine' Te.cmp ?z9hm ?_); (case z9hm => exact rfl)) | ((with_reducible refine' Te.ors ?_); intro w9) | ((with_reducible refine' Te.or ?_)) | ((with_reducible refine' Te.or0 ?_)) | ((with_reducible refine' Cm.eqI (c := true) ?z9hc ?_); (case z9hc => first | assumption | kernel_rfl!)) | ((with_reducible refine' Cm.eqI (c := false) ?z9hc ?_); (case z9hc => first | assumption | kernel_rfl!)) | ((with_reducible refine' Cm.eqS (c := true) ?z9hc ?_); (case z9hc => first | assumption | kernel_rfl!)) | ((with_reducible refine' Cm.eqS (c := false) ?z9hc ?_); (case z9hc => first | assumption | kernel_rfl!)) | ((with_reducible refine' Cm.eqTS ?z9m ?_); (case z9m => ksk_a2)) | ((with_reducible refine' Cm.eq0 ?z9m ?z9n ?_); (case z9m => ksk_a2); (case z9n => ksk_a2)) | ((with_reducible refine' Cm.eqL ?z9m ?z9n ?z9e ?_); (case z9m => ksk_a2); (case z9n => ksk_a2); (case z9e => exact rfl)) | ((with_reducible refine' Ex.bin ?_)) | ((with_reducible refine' Ex.sub ?_)) | ((with_reducible refine' Ex.ifexp ?_)) | ((with_reducible refine' Bi.cat ?z9ma ?z9mb ?z9hz ?_); (case z9ma => ksk_a2); (case z9mb => ksk_a2); (case z9hz => first | exact Nat.le_of_ble_eq_true rfl | (simp only [List.length_append, List.length_cons, List.length_nil]; omega)); intro D9) | ((with_reducible refine' Sb.item ?z9m ?z9ho ?z9h0 ?z9hi ?z9hx ?z9hs ?_); (case z9m => ksk_a2); (case z9ho => first | with_reducible exact SeqO.list | with_reducible exact SeqO.pair | with_reducible exact SeqO.tup); (case z9h0 => first | decide | omega); (case z9hi => first | decide | omega); (case z9hx => first | exact rfl | assumption); (case z9hs => exact rfl)) | ((with_reducible refine' Ss.asg2 ?z9hs ?z9hx ?z9hy ?z9hw ?z9hn ?_); (case z9hs => assumption); (case z9hx => kernel_rfl!); (case z9hy => kernel_rfl!); (case z9hw => (intro _; exact rfl)); (case z9hn => (intro _; exact rfl))) | ((with_reducible refine' ⟨_, _, _, _, _, _, rfl, ?z9m, ?z9d1, ?z9d2, ?_⟩); (case z9m => ksk_a2); (case z9d1 => first | ((refine' Drp.same ?_); kernel_rfl!) | ((refine' Drp.out ?z9x ?z9y); (case z9x => repeat (first | with_reducible exact Drop.head | with_reducible apply Drop.tail)); (case z9y => kernel_rfl!))); (case z9d2 => first | ((refine' Drp.same ?_); kernel_rfl!) | ((refine' Drp.out ?z9x ?z9y); (case z9x => repeat (first | with_reducible exact Drop.head | with_reducible apply Drop.tail)); (case z9y => kernel_rfl!)))) | (with_reducible intro a9) | ((with_reducible refine' Cm.look ?_); (rename BaseIn _ _ _ => B99); (rename DueIn _ _ _ => D99); (rcases base_split B99 D99 with ⟨t9, e9, f9⟩ | ⟨D9', n9', x9', t9', l9', k9', e9, f9, m1', m2', s9⟩ | ⟨D9', n9', x9', t9', l9', k9', r9', rs9, p9', ps9, e9, f9, m1', m2', d1', d2', ok9, s9, hl9'⟩ <;> (subst e9; subst f9; clear D99)))))
  all_goals with_reducible refine Fin.mkB (by ki_room) ?_
  all_goals first
    | exact .mk (by ksk_a2) (.base (BaseIn.mono (by assumption) (by k_units))) (DueIn.mono (by assumption) (by k_units))
    | exact .mk (by ksk_a2) (.just (.app (by ksk_a2) (by ksk_a2) (by ksk_a2) (by ksk_a2) (PIn.mono (by assumption) (by k_units)))) (.pat (by ksk_a2) (by (dsimp only [PE.row]; kd_in)) (ok_just (by assumption)))
    | exact .mk (by ksk_a2) (.tupb (.tup (by ksk_a2) (by ksk_a2) (by ksk_a2) (PIn.mono (by assumption) (by k_units)) (.var (by ksk_a2) (by ksk_a2) (by decide)))) (.pat (by ksk_a2) (by (dsimp only [PE.row]; kd_in)) (ok_tupb (by assumption)))
    | exact .mk (due := .bad) (by ksk_a2) (.wrap (due := .bad) (.mk (by ksk_a2) (by ksk_a2)) (.mk (by ksk_a2) (by ksk_a2)) (BaseIn.mono (by assumption) (by k_units)) (PIn.mono (by assumption) (by k_units))) (.bad)
    | exact .mk (due := .none0) (by ksk_a2) (.wrap (due := .fn _ []) (.mk (by ksk_a2) (by ksk_a2)) (.mk (by ksk_a2) (by ksk_a2)) (BaseIn.mono (by assumption) (by k_units)) (PIn.mono (by assumption) (by k_units))) (.none0)
    | exact .mk (by ksk_a2) (.wrap (due := .fn _ (_ :: _)) (.mk (by ksk_a2) (by ksk_a2)) (.mk (by ksk_a2) (by ksk_a2)) (BaseIn.mono (by assumption) (by k_units)) (PIn.mono (by assumption) (by k_units))) (due_wrap (by ksk_a2) (by ksk_a2) (by (refine DatIn.mono ?s9 (by assumption); (case s9 => k_units))) (by (refine DatAll.mono ?s9 (by assumption); (case s9 => k_units))) (by assumption) (by assumption) (by kd_in) (Ok.atom (by assumption)))
theorem part_c {w : World} (Mk : Mks w) : PartC w := by
  intro led l vs q n ml sd
  cases sd
  all_goals
    refine RD.enter (binds := [("items", .ref l), ("place", .none)]) (by kas_ty) ?_
    intro G all hw hs hn sub
    (repeat' (first | ((with_reducible refine' Ca.i1 ?z9hw ?z9hn ?z9C ?_); (case z9C => first | with_reducible exact Mk.c_infixP _ _); (case z9hw => assumption); (case z9hn => first | assumption | exact Nat.le_trans (Nat.le_of_ble_eq_true rfl) (by assumption) | omega); intro tl9 a9 d9 n9 h09 h19 t09 t19 m9 m9) | ((with_reducible refine' Exs.locX ?z9hs ?z9hv ?z9hn ?_); (case z9hs => assumption); (case z9hv => ksk_a2); (case z9hn => kernel_rfl)) | ((with_reducible refine' Exs.nil ?_)) | ((with_reducible refine' Ex.callFX ?z9hs ?z9hg ?z9hf ?z9hn ?_); (case z9hs => assumption); (case z9hg => k_is); (case z9hf => k_is); (case z9hn => kernel_rfl)) | ((with_reducible refine' Ex.int ?_); intro t9) | ((with_reducible refine' Ss.ret ?_)) | ((with_reducible refine' Te.cmp ?z9hm ?_); (case z9hm => exact rfl)) | ((with_reducible refine' Cm.eqI (c := true) ?z9hc ?_); (case z9hc => first | assumption | kernel_rfl!)) | ((with_reducible refine' Cm.eqI (c := false) ?z9hc ?_); (case z9hc => first | assumption | kernel_rfl!)) | ((with_reducible refine' Ex.itemX ?z9hs ?z9hv ?z9hn ?z9m ?z9ho ?z9hi ?z9hx ?_); (case z9hs => assumption); (case z9hv => ksk_a2); (case z9hn => kernel_rfl); (case z9m => ksk_a2); (case z9ho => first | with_reducible exact SeqO.list | with_reducible exact SeqO.pair | with_reducible exact SeqO.tup); (case z9hi => kernel_rfl); (case z9hx => first | exact rfl | assumption)) | ((with_reducible refine' Ex.ifexp ?_)) | ((with_reducible refine' Ex.callB ?z9hs ?z9hg ?z9hv ?z9hm ?z9hk ?z9hd ?z9hp ?_); (case z9hs => assumption); (case z9hg => k_is); (case z9hv => boot_fast); (case z9hm => decide); (case z9hk => kernel_rfl!); (case z9hd => kernel_rfl); (case z9hp => exact rfl)) | ((with_reducible refine' Ca.len ?z9m ?z9hk ?z9hz ?_); (case z9m => ksk_a2); (case z9hk => first | (exact len_lit (k := 2) (ki := 2) rfl rfl) | (exact len_lit (k := 1) (ki := 1) rfl rfl) | (exact len_lit (k := 3) (ki := 3) rfl rfl) | (exact len_lit (k := 4) (ki := 4) rfl rfl) | (exact len_lit (k := 0) (ki := 0) rfl rfl) | (exact len_lit (k := 5) (ki := 5) rfl rfl) | (exact len_lit (k := 6) (ki := 6) rfl rfl) | (exact len_lit (k := 7) (ki := 7) rfl rfl) | (exact len_lit (k := 8) (ki := 8) rfl rfl) | (exact len_lit (k := 9) (ki := 9) rfl rfl) | exact ⟨rfl, rfl⟩); (case z9hz => first | exact Nat.le_of_ble_eq_true rfl | omega); intro t9)))
  all_goals (with_reducible refine Fin.mk (by ki_room) (by ki_room) ?_)
  · exact .mk (.neg (by ksk_a2) (by ksk_a2) (by ksk_a2) (by ksk_a2) (by ksk_a2) (by ksk_a2) (by ksk_a2))
  · exact .mk (PIn.mono (by assumption) (by k_units))
  · exact .mk (.two (by ksk_a2) (by ksk_a2) (by ksk_a2) (by ksk_a2) (by ksk_a2) (PIn.mono (by assumption) (by k_units)) (PIn.mono (by assumption) (by k_units)))
theorem spine_c {w : World} : SpineC w := by
  intro led b hd9 vs sp
  cases sp
  all_goals repeat (rename AppAt _ _ _ _ => a1; cases a1)
  all_goals
    refine RD.enter (binds := [("expr", .ref _)]) (by kas_ty) ?_
    intro G all hw hs hn sub
    (repeat' (first | ((with_reducible refine' ⟨_, rfl, rfl, ?_⟩); intro D9) | ((with_reducible refine' Ex.attrX ?z9hs ?z9hv ?z9hn ?z9m1 ?z9m2 ?z9hD ?z9hl ?z9hh ?_); (case z9hs => assumption); (case z9hv => ksk_a2); (case z9hn => kernel_rfl); (case z9m1 => ksk_a2); (case z9m2 => ksk_a2); (case z9hD => kernel_rfl!); (case z9hl => k_get); (case z9hh => first | exact rfl | k_handed)) | ((with_reducible refine' Ga.node ?z9m1 ?z9m2 ?z9hD ?z9hx ?z9hl ?z9hv ?_); (case z9m1 => ksk_a2); (case z9m2 => ksk_a2); (case z9hD => kernel_rfl!); (case z9hx => kernel_rfl!); (case z9hl => k_get); (case z9hv => first | exact rfl | k_handed)) | ((with_reducible refine' Te.plain ?z9ht ?_); (case z9ht => (intro _ _; exact rfl))) | (with_reducible refine' ⟨_, rfl, ?_⟩) | ((with_reducible refine' Ca.isi ?z9m1 ?z9m2 ?z9hD ?z9hC false ?z9hb ?_); (case z9m1 => ksk_a2); (case z9m2 => ksk_a2); (case z9hD => assumption); (case z9hC => kernel_rfl!); (case z9hb => assumption)) | ((with_reducible refine' Ss.isiN ?z9hs ?z9hv ?z9hn ?z9hg ?z9m1 ?z9m2 ?z9hD ?_); (case z9hs => assumption); (case z9hv => ksk_a2); (case z9hn => kernel_rfl); (case z9hg => k_is); (case z9m1 => ksk_a2); (case z9m2 => ksk_a2); (case z9hD => kernel_rfl!)) | ((with_reducible refine' Te.isiX false ?z9hs ?z9hv ?z9hn ?z9hg ?z9m1 ?z9m2 ?z9hD ?_); (case z9hs => assumption); (case z9hv => ksk_a2); (case z9hn => kernel_rfl); (case z9hg => k_is); (case z9m1 => ksk_a2); (case z9m2 => ksk_a2); (case z9hD => kernel_rfl!)) | ((with_reducible refine' Te.isiX true ?z9hs ?z9hv ?z9hn ?z9hg ?z9m1 ?z9m2 ?z9hD ?_); (case z9hs => assumption); (case z9hv => ksk_a2); (case z9hn => kernel_rfl); (case z9hg => k_is); (case z9m1 => ksk_a2); (case z9m2 => ksk_a2); (case z9hD => kernel_rfl!)) | ((with_reducible refine' Ca.isi ?z9m1 ?z9m2 ?z9hD ?z9hC false ?z9hb ?_); (case z9m1 => ksk_a2); (case z9m2 => ksk_a2); (case z9hD => kernel_rfl!); (case z9hC => kernel_rfl!); (case z9hb => kernel_rfl!)) | ((with_reducible refine' Ca.isi ?z9m1 ?z9m2 ?z9hD ?z9hC true ?z9hb ?_); (case z9m1 => ksk_a2); (case z9m2 => ksk_a2); (case z9hD => kernel_rfl!); (case z9hC => kernel_rfl!); (case z9hb => kernel_rfl!)) | ((with_reducible refine' Ss.while ?_)) | ((with_reducible refine' Wh.turn ?_)) | ((with_reducible refine' Gm.list ?z9m PySem.F.slot_list_append PySem.F.type_list_append ?_); (case z9m => ksk_a2)) | ((with_reducible refine' Gm.list ?z9m PySem.F.slot_list_reverse PySem.F.type_list_reverse ?_); (case z9m => ksk_a2)) | ((with_reducible refine' Ca.appL ?z9m ?z9hs ?z9hz ⟨_, ?z9U, ?_⟩); (case z9m => ksk_a2); (case z9hs => (repeat with_reducible apply Snoc.cons); with_reducible exact Snoc.nil); (case z9hz => exact rfl); (case z9U => ksk_a1)) | ((with_reducible refine' Cw.bi0 ?_)) | ((with_reducible refine' Cw.b1 ?z9hp ?_); (case z9hp => exact rfl)) | ((with_reducible refine' Ex.slRev ?z9hs ?z9ht ?_); (case z9hs => (intro _ _; exact ⟨_, rfl⟩)); (case z9ht => (intro _ _; exact rfl))) | ((with_reducible refine' ⟨_, _, _, _, rfl, ?z9m, ?z9rv, ?z9hz, ?_⟩); (case z9m => ksk_a2); (case z9rv => (repeat with_reducible apply RevA.cons); with_reducible exact RevA.nil); (case z9hz => exact rfl)) | ((with_reducible refine' Exs.locX ?z9hs ?z9hv ?z9hn ?_); (case z9hs => assumption); (case z9hv => ksk_a2); (case z9hn => kernel_rfl)) | ((with_reducible refine' Exs.nil ?_)) | ((with_reducible refine' Exs.cons ?z9hp ?_); (case z9hp => exact rfl)) | ((with_reducible refine' Ex.locX ?z9hs ?z9hv ?z9hn ?_); (case z9hs => assumption); (case z9hv => ksk_a2); (case z9hn => kernel_rfl)) | ((with_reducible refine' Ex.tup ?z9hz ?_); (case z9hz => exact rfl)) | ((with_reducible refine' Ex.lst ?z9hz ?_); (case z9hz => exact rfl)) | ((with_reducible refine' Ss.ret ?_)) | ((with_reducible refine' Ss.asg ?z9hs ?z9hk ?z9hw ?z9hx ?_); (case z9hs => assumption); (case z9hk => kernel_rfl!); (case z9hw => (intro _; exact rfl)); (case z9hx => kernel_rfl!)) | ((with_reducible refine' Ss.asgU ?z9hs ?z9hk ?z9hw ?z9hdr ?z9hx ?_); (case z9hs => assumption); (case z9hk => kernel_rfl!); (case z9hw => (intro _; exact rfl)); (case z9hdr => repeat (first | with_reducible exact Drop.head | with_reducible apply Drop.tail)); (case z9hx => kernel_rfl!)) | ((with_reducible refine' Ss.expr ?z9hw ?_); (case z9hw => (intro _; exact rfl))) | ((with_reducible refine' Ss.nil ?_)) | ((with_reducible refine' Ex.meth ?z9he ?_); (case z9he => exact rfl)) | ((with_reducible refine' Ex.callB ?z9hs ?z9hg ?z9hv ?z9hm ?z9hk ?z9hd ?z9hp ?_); (case z9hs => assumption); (case z9hg => k_is); (case z9hv => boot_fast); (case z9hm => decide); (case z9hk => kernel_rfl!); (case z9hd => kernel_rfl); (case z9hp => exact rfl)) | ((with_reducible refine' Ex.neg ?_); intro t9) | ((with_reducible refine' Ex.gloX ?z9hs ?z9e ?z9hn ?_); (case z9hs => assumption); (case z9e => k_is); (case z9hn => kernel_rfl)) | (with_reducible intro a9)))
  all_goals (with_reducible refine Fin.mk (by ki_room) (by ki_room) ?_)
  all_goals exact .mk (by ksk_a2) (by ksk_a2)
def VJ (l : Addr) (ks : List KK) (all : Led) (i : Nat) (ρ : Rho) (led : Led) : Prop :=
  ∃ T tt D vs n is b, ρ = [(("is_due" : Str), Value.bool b), (("found" : Str), Value.ref D), (("items" : Str), Value.ref l)] ∧ led = (T, tt) :: (D, listOf vs.toArray n) :: all ∧ Ints vs is ∧ scanK (ks.take i) 0 ([], true) = (is, b) ∧ is.length ≤ i
theorem vj_step {l T D : Addr} {tt : Obj} {ks : List KK} {all : Led} {i n' : Nat} {vs vs' : List Value} {is is' : List Int} {b b' : Bool} {k : KK} (hk : ks[i]? = some k) (hI : Ints vs is) (hs : scanK (ks.take i) 0 ([], true) = (is, b)) (hl : is.length ≤ i)
    (h : (Ints vs' is' ∧ is'.length ≤ is.length + 1) ∧ stepK (is, b) i k = (is', b')) : VJ l ks all (i + 1) [(("is_due" : Str), Value.bool b'), (("found" : Str), Value.ref D), (("items" : Str), Value.ref l)] ((T, tt) :: (D, listOf vs'.toArray n') :: all) :=
  ⟨T, tt, D, vs', n', is', b', rfl, rfl, h.1.1, by rw [scanK_snoc hk, hs]; exact h.2, by have := h.1.2; omega⟩
theorem vars_c {w : World} : VarsC w := by
  intro led l vs ks n ml ka hz
  refine RD.enter (binds := [("items", .ref l)]) (by kas_ty) ?_
  intro G all hw hs hn sub
  replace ka := ka.mono sub
  have hlen : LenIs vs vs.length (vs.length : Int) := ⟨rfl, rfl⟩
  have hlz : vs.length ≤ 1000 := by omega
  (repeat' (first | ((with_reducible refine' Ss.forR (VJ l ks all) ?z9hs ?z9hx ?z9hg ?z9hv ?z9hm ?z9hk ?z9hd ?z9hp ?_ ?z9hf); (case z9hs => assumption); (case z9hx => kernel_rfl!); (case z9hg => k_is); (case z9hv => boot_fast); (case z9hm => decide); (case z9hk => kernel_rfl!); (case z9hd => kernel_rfl); (case z9hp => exact rfl); (case z9hf => (intro _ _; exact rfl))) | ((with_reducible refine' Ex.attrX ?z9hs ?z9hv ?z9hn ?z9m1 ?z9m2 ?z9hD ?z9hl ?z9hh ?_); (case z9hs => assumption); (case z9hv => ksk_a2); (case z9hn => kernel_rfl); (case z9m1 => ksk_a2); (case z9m2 => ksk_a2); (case z9hD => kernel_rfl!); (case z9hl => k_get); (case z9hh => first | exact rfl | k_handed)) | ((with_reducible refine' Ga.node ?z9m1 ?z9m2 ?z9hD ?z9hx ?z9hl ?z9hv ?_); (case z9m1 => ksk_a2); (case z9m2 => ksk_a2); (case z9hD => kernel_rfl!); (case z9hx => kernel_rfl!); (case z9hl => k_get); (case z9hv => first | exact rfl | k_handed)) | ((with_reducible refine' Te.loc ?z9hs ?z9hv ?z9hk ?z9hd ?z9ht ?_); (case z9hs => assumption); (case z9hv => ksk_a2); (case z9hk => kernel_rfl!); (case z9hd => kernel_rfl); (case z9ht => (intro _ _; exact rfl))) | ((with_reducible refine' Te.plain ?z9ht ?_); (case z9ht => (intro _ _; exact rfl))) | (with_reducible refine' ⟨_, rfl, ?_⟩) | ((with_reducible refine' Te.notM ?_)) | ((with_reducible refine' Ss.isiN ?z9hs ?z9hv ?z9hn ?z9hg ?z9m1 ?z9m2 ?z9hD ?_); (case z9hs => assumption); (case z9hv => ksk_a2); (case z9hn => kernel_rfl); (case z9hg => k_is); (case z9m1 => ksk_a2); (case z9m2 => ksk_a2); (case z9hD => kernel_rfl!)) | ((with_reducible refine' Te.isiX false ?z9hs ?z9hv ?z9hn ?z9hg ?z9m1 ?z9m2 ?z9hD ?_); (case z9hs => assumption); (case z9hv => ksk_a2); (case z9hn => kernel_rfl); (case z9hg => k_is); (case z9m1 => ksk_a2); (case z9m2 => ksk_a2); (case z9hD => kernel_rfl!)) | ((with_reducible refine' Te.isiX true ?z9hs ?z9hv ?z9hn ?z9hg ?z9m1 ?z9m2 ?z9hD ?_); (case z9hs => assumption); (case z9hv => ksk_a2); (case z9hn => kernel_rfl); (case z9hg => k_is); (case z9m1 => ksk_a2); (case z9m2 => ksk_a2); (case z9hD => kernel_rfl!)) | ((with_reducible refine' Ca.isi ?z9m1 ?z9m2 ?z9hD ?z9hC false ?z9hb ?_); (case z9m1 => ksk_a2); (case z9m2 => ksk_a2); (case z9hD => kernel_rfl!); (case z9hC => kernel_rfl!); (case z9hb => kernel_rfl!)) | ((with_reducible refine' Ca.isi ?z9m1 ?z9m2 ?z9hD ?z9hC true ?z9hb ?_); (case z9m1 => ksk_a2); (case z9m2 => ksk_a2); (case z9hD => kernel_rfl!); (case z9hC => kernel_rfl!); (case z9hb => kernel_rfl!)) | ((with_reducible refine' Ca.isi ?z9m1 ?z9m2 ?z9hD ?z9hC false ?z9hb ?_); (case z9m1 => ksk_a2); (case z9m2 => ksk_a2); (case z9hD => assumption); (case z9hC => kernel_rfl!); (case z9hb => assumption)) | ((with_reducible refine' Gm.list ?z9m PySem.F.slot_list_append PySem.F.type_list_append ?_); (case z9m => ksk_a2)) | ((with_reducible refine' Gm.list ?z9m PySem.F.slot_list_reverse PySem.F.type_list_reverse ?_); (case z9m => ksk_a2)) | ((with_reducible refine' Ca.app ?z9m ?z9hz ⟨_, ?z9U, ?_⟩); (case z9m => ksk_a2); (case z9hz => assumption); (case z9U => ksk_a1)) | ((with_reducible refine' Cw.bi0 ?_)) | ((with_reducible refine' Cw.b1 ?z9hp ?_); (case z9hp => exact rfl)) | ((with_reducible refine' Exs.locX ?z9hs ?z9hv ?z9hn ?_); (case z9hs => assumption); (case z9hv => ksk_a2); (case z9hn => kernel_rfl)) | ((with_reducible refine' Exs.nil ?_)) | ((with_reducible refine' Exs.bool ?_)) | ((with_reducible refine' Exs.cons ?z9hp ?_); (case z9hp => exact rfl)) | ((with_reducible refine' Ex.locX ?z9hs ?z9hv ?z9hn ?_); (case z9hs => assumption); (case z9hv => ksk_a2); (case z9hn => kernel_rfl)) | ((with_reducible refine' Ex.bool ?_)) | ((with_reducible refine' Ex.tup ?z9hz ?_); (case z9hz => exact rfl)) | ((with_reducible refine' Ex.lst ?z9hz ?_); (case z9hz => exact rfl)) | ((with_reducible refine' Ss.ret ?_)) | ((with_reducible refine' Ss.iteN ?_)) | ((with_reducible refine' Ss.ite ?_)) | ((with_reducible refine' Ss.asgU ?z9hs ?z9hk ?z9hw ?z9hdr ?z9hx ?_); (case z9hs => assumption); (case z9hk => kernel_rfl!); (case z9hw => (intro _; exact rfl)); (case z9hdr => repeat (first | with_reducible exact Drop.head | with_reducible apply Drop.tail)); (case z9hx => kernel_rfl!)) | ((with_reducible refine' Ss.expr ?z9hw ?_); (case z9hw => (intro _; exact rfl))) | ((with_reducible refine' Ss.nil ?_)) | ((with_reducible refine' Ex.sub ?_)) | ((with_reducible refine' Ex.meth ?z9he ?_); (case z9he => exact rfl)) | ((with_reducible refine' Ex.callB ?z9hs ?z9hg ?z9hv ?z9hm ?z9hk ?z9hd ?z9hp ?_); (case z9hs => assumption); (case z9hg => k_is); (case z9hv => boot_fast); (case z9hm => decide); (case z9hk => kernel_rfl!); (case z9hd => kernel_rfl); (case z9hp => exact rfl)) | ((with_reducible refine' Ca.len ?z9m ?z9hk ?z9hz ?_); (case z9m => ksk_a2); (case z9hk => first | (exact len_lit (k := 2) (ki := 2) rfl rfl) | (exact len_lit (k := 1) (ki := 1) rfl rfl) | (exact len_lit (k := 3) (ki := 3) rfl rfl) | (exact len_lit (k := 4) (ki := 4) rfl rfl) | (exact len_lit (k := 0) (ki := 0) rfl rfl) | (exact len_lit (k := 5) (ki := 5) rfl rfl) | (exact len_lit (k := 6) (ki := 6) rfl rfl) | (exact len_lit (k := 7) (ki := 7) rfl rfl) | (exact len_lit (k := 8) (ki := 8) rfl rfl) | (exact len_lit (k := 9) (ki := 9) rfl rfl) | exact ⟨rfl, rfl⟩); (case z9hz => first | exact Nat.le_of_ble_eq_true rfl | omega); intro t9) | ((with_reducible refine' Sb.item ?z9m ?z9ho ?z9h0 ?z9hi ?z9hx ?z9hs ?_); (case z9m => ksk_a2); (case z9ho => first | with_reducible exact SeqO.list | with_reducible exact SeqO.pair | with_reducible exact SeqO.tup); (case z9h0 => first | decide | omega); (case z9hi => first | decide | omega); (case z9hx => first | exact rfl | assumption); (case z9hs => exact rfl)) | ((with_reducible refine' Ss.asg2s ?z9hs ?z9hx ?z9hy ?z9hw ?z9hn ?_); (case z9hs => assumption); (case z9hx => kernel_rfl!); (case z9hy => kernel_rfl!); (case z9hw => (intro _; exact rfl)); (case z9hn => (intro _ _ _ _ _; kernel_rfl!))) | ((with_reducible refine' ⟨_, _, _, _, _, _, rfl, ?z9m, ?z9d1, ?z9d2, ?_⟩); (case z9m => ksk_a2); (case z9d1 => first | ((refine' Drp.same ?_); kernel_rfl!) | ((refine' Drp.out ?z9x ?z9y); (case z9x => repeat (first | with_reducible exact Drop.head | with_reducible apply Drop.tail)); (case z9y => kernel_rfl!))); (case z9d2 => first | ((refine' Drp.same ?_); kernel_rfl!) | ((refine' Drp.out ?z9x ?z9y); (case z9x => repeat (first | with_reducible exact Drop.head | with_reducible apply Drop.tail)); (case z9y => kernel_rfl!)))) | ((with_reducible refine' Ex.gloX ?z9hs ?z9e ?z9hn ?_); (case z9hs => assumption); (case z9e => k_is); (case z9hn => kernel_rfl)) | (with_reducible intro a9) | ((with_reducible refine' Ex.attrA ?z9he ?_); (case z9he => (intro _; first | exact rfl | with_unfolding_all rfl)))))
  refine' ⟨vs.length, _, rfl, by omega, ⟨_, ?c, ⟨_, _, _, [], _, [], true, rfl, rfl, .nil, by simp [scanK], by simp⟩⟩, ?turn, ?done⟩
  case c => k_units
  case turn =>
    rintro i ρ' led' hi ⟨T, tt, D, ws, nn, is, b, rfl, rfl, hI, hsc, hil⟩
    refine' ⟨_, ?d1, fun t => ?_⟩
    case d1 => first | ((refine' Drp.same ?_); kernel_rfl!) | ((refine' Drp.out ?x ?y); (case x => repeat (first | with_reducible exact Drop.head | with_reducible apply Drop.tail)); (case y => kernel_rfl!))
    obtain ⟨a, k, e1, e2, kin⟩ := ka.at hi
    have hx9 : vs[((i : Nat) : Int).toNat]? = some (.ref a) := e1
    have hwl : ws.length ≤ 1000 := by have := hI.len; omega
    cases kin <;> cases b <;> (try (rename OpAt _ _ _ _ => o9; cases o9))
    all_goals
      (repeat' (first | ((with_reducible refine' Ss.forR (VJ l ks all) ?z9hs ?z9hx ?z9hg ?z9hv ?z9hm ?z9hk ?z9hd ?z9hp ?_ ?z9hf); (case z9hs => assumption); (case z9hx => kernel_rfl!); (case z9hg => k_is); (case z9hv => boot_fast); (case z9hm => decide); (case z9hk => kernel_rfl!); (case z9hd => kernel_rfl); (case z9hp => exact rfl); (case z9hf => (intro _ _; exact rfl))) | ((with_reducible refine' Ex.attrX ?z9hs ?z9hv ?z9hn ?z9m1 ?z9m2 ?z9hD ?z9hl ?z9hh ?_); (case z9hs => assumption); (case z9hv => ksk_a2); (case z9hn => kernel_rfl); (case z9m1 => ksk_a2); (case z9m2 => ksk_a2); (case z9hD => kernel_rfl!); (case z9hl => k_get); (case z9hh => first | exact rfl | k_handed)) | ((with_reducible refine' Ga.node ?z9m1 ?z9m2 ?z9hD ?z9hx ?z9hl ?z9hv ?_); (case z9m1 => ksk_a2); (case z9m2 => ksk_a2); (case z9hD => kernel_rfl!); (case z9hx => kernel_rfl!); (case z9hl => k_get); (case z9hv => first | exact rfl | k_handed)) | ((with_reducible refine' Te.loc ?z9hs ?z9hv ?z9hk ?z9hd ?z9ht ?_); (case z9hs => assumption); (case z9hv => ksk_a2); (case z9hk => kernel_rfl!); (case z9hd => kernel_rfl); (case z9ht => (intro _ _; exact rfl))) | ((with_reducible refine' Te.plain ?z9ht ?_); (case z9ht => (intro _ _; exact rfl))) | (with_reducible refine' ⟨_, rfl, ?_⟩) | ((with_reducible refine' Te.notM ?_)) | ((with_reducible refine' Ss.isiN ?z9hs ?z9hv ?z9hn ?z9hg ?z9m1 ?z9m2 ?z9hD ?_); (case z9hs => assumption); (case z9hv => ksk_a2); (case z9hn => kernel_rfl); (case z9hg => k_is); (case z9m1 => ksk_a2); (case z9m2 => ksk_a2); (case z9hD => kernel_rfl!)) | ((with_reducible refine' Te.isiX false ?z9hs ?z9hv ?z9hn ?z9hg ?z9m1 ?z9m2 ?z9hD ?_); (case z9hs => assumption); (case z9hv => ksk_a2); (case z9hn => kernel_rfl); (case z9hg => k_is); (case z9m1 => ksk_a2); (case z9m2 => ksk_a2); (case z9hD => kernel_rfl!)) | ((with_reducible refine' Te.isiX true ?z9hs ?z9hv ?z9hn ?z9hg ?z9m1 ?z9m2 ?z9hD ?_); (case z9hs => assumption); (case z9hv => ksk_a2); (case z9hn => kernel_rfl); (case z9hg => k_is); (case z9m1 => ksk_a2); (case z9m2 => ksk_a2); (case z9hD => kernel_rfl!)) | ((with_reducible refine' Ca.isi ?z9m1 ?z9m2 ?z9hD ?z9hC false ?z9hb ?_); (case z9m1 => ksk_a2); (case z9m2 => ksk_a2); (case z9hD => kernel_rfl!); (case z9hC => kernel_rfl!); (case z9hb => kernel_rfl!)) | ((with_reducible refine' Ca.isi ?z9m1 ?z9m2 ?z9hD ?z9hC true ?z9hb ?_); (case z9m1 => ksk_a2); (case z9m2 => ksk_a2); (case z9hD => kernel_rfl!); (case z9hC => kernel_rfl!); (case z9hb => kernel_rfl!)) | ((with_reducible refine' Ca.isi ?z9m1 ?z9m2 ?z9hD ?z9hC false ?z9hb ?_); (case z9m1 => ksk_a2); (case z9m2 => ksk_a2); (case z9hD => assumption); (case z9hC => kernel_rfl!); (case z9hb => assumption)) | ((with_reducible refine' Gm.list ?z9m PySem.F.slot_list_append PySem.F.type_list_append ?_); (case z9m => ksk_a2)) | ((with_reducible refine' Gm.list ?z9m PySem.F.slot_list_reverse PySem.F.type_list_reverse ?_); (case z9m => ksk_a2)) | ((with_reducible refine' Ca.app ?z9m ?z9hz ⟨_, ?z9U, ?_⟩); (case z9m => ksk_a2); (case z9hz => assumption); (case z9U => ksk_a1)) | ((with_reducible refine' Cw.bi0 ?_)) | ((with_reducible refine' Cw.b1 ?z9hp ?_); (case z9hp => exact rfl)) | ((with_reducible refine' Exs.locX ?z9hs ?z9hv ?z9hn ?_); (case z9hs => assumption); (case z9hv => ksk_a2); (case z9hn => kernel_rfl)) | ((with_reducible refine' Exs.nil ?_)) | ((with_reducible refine' Exs.bool ?_)) | ((with_reducible refine' Exs.cons ?z9hp ?_); (case z9hp => exact rfl)) | ((with_reducible refine' Ex.locX ?z9hs ?z9hv ?z9hn ?_); (case z9hs => assumption); (case z9hv => ksk_a2); (case z9hn => kernel_rfl)) | ((with_reducible refine' Ex.bool ?_)) | ((with_reducible refine' Ex.tup ?z9hz ?_); (case z9hz => exact rfl)) | ((with_reducible refine' Ex.lst ?z9hz ?_); (case z9hz => exact rfl)) | ((with_reducible refine' Ss.ret ?_)) | ((with_reducible refine' Ss.iteN ?_)) | ((with_reducible refine' Ss.ite ?_)) | ((with_reducible refine' Ss.asgU ?z9hs ?z9hk ?z9hw ?z9hdr ?z9hx ?_); (case z9hs => assumption); (case z9hk => kernel_rfl!); (case z9hw => (intro _; exact rfl)); (case z9hdr => repeat (first | with_reducible exact Drop.head | with_reducible apply Drop.tail)); (case z9hx => kernel_rfl!)) | ((with_reducible refine' Ss.expr ?z9hw ?_); (case z9hw => (intro _; exact rfl))) | ((with_reducible refine' Ss.nil ?_)) | ((with_reducible refine' Ex.sub ?_)) | ((with_reducible refine' Ex.meth ?z9he ?_); (case z9he => exact rfl)) | ((with_reducible refine' Ex.callB ?z9hs ?z9hg ?z9hv ?z9hm ?z9hk ?z9hd ?z9hp ?_); (case z9hs => assumption); (case z9hg => k_is); (case z9hv => boot_fast); (case z9hm => decide); (case z9hk => kernel_rfl!); (case z9hd => kernel_rfl); (case z9hp => exact rfl)) | ((with_reducible refine' Ca.len ?z9m ?z9hk ?z9hz ?_); (case z9m => ksk_a2); (case z9hk => first | (exact len_lit (k := 2) (ki := 2) rfl rfl) | (exact len_lit (k := 1) (ki := 1) rfl rfl) | (exact len_lit (k := 3) (ki := 3) rfl rfl) | (exact len_lit (k := 4) (ki := 4) rfl rfl) | (exact len_lit (k := 0) (ki := 0) rfl rfl) | (exact len_lit (k := 5) (ki := 5) rfl rfl) | (exact len_lit (k := 6) (ki := 6) rfl rfl) | (exact len_lit (k := 7) (ki := 7) rfl rfl) | (exact len_lit (k := 8) (ki := 8) rfl rfl) | (exact len_lit (k := 9) (ki := 9) rfl rfl) | exact ⟨rfl, rfl⟩); (case z9hz => first | exact Nat.le_of_ble_eq_true rfl | omega); intro t9) | ((with_reducible refine' Sb.item ?z9m ?z9ho ?z9h0 ?z9hi ?z9hx ?z9hs ?_); (case z9m => ksk_a2); (case z9ho => first | with_reducible exact SeqO.list | with_reducible exact SeqO.pair | with_reducible exact SeqO.tup); (case z9h0 => first | decide | omega); (case z9hi => first | decide | omega); (case z9hx => first | exact rfl | assumption); (case z9hs => exact rfl)) | ((with_reducible refine' Ss.asg2s ?z9hs ?z9hx ?z9hy ?z9hw ?z9hn ?_); (case z9hs => assumption); (case z9hx => kernel_rfl!); (case z9hy => kernel_rfl!); (case z9hw => (intro _; exact rfl)); (case z9hn => (intro _ _ _ _ _; kernel_rfl!))) | ((with_reducible refine' ⟨_, _, _, _, _, _, rfl, ?z9m, ?z9d1, ?z9d2, ?_⟩); (case z9m => ksk_a2); (case z9d1 => first | ((refine' Drp.same ?_); kernel_rfl!) | ((refine' Drp.out ?z9x ?z9y); (case z9x => repeat (first | with_reducible exact Drop.head | with_reducible apply Drop.tail)); (case z9y => kernel_rfl!))); (case z9d2 => first | ((refine' Drp.same ?_); kernel_rfl!) | ((refine' Drp.out ?z9x ?z9y); (case z9x => repeat (first | with_reducible exact Drop.head | with_reducible apply Drop.tail)); (case z9y => kernel_rfl!)))) | ((with_reducible refine' Ex.gloX ?z9hs ?z9e ?z9hn ?_); (case z9hs => assumption); (case z9e => k_is); (case z9hn => kernel_rfl)) | (with_reducible intro a9) | ((with_reducible refine' Ex.attrA ?z9he ?_); (case z9he => (intro _; first | exact rfl | with_unfolding_all rfl)))))
    all_goals
      refine' ⟨rfl, _, ?s, vj_step e2 hI hsc hil ⟨⟨?I, ?len⟩, rfl⟩⟩
      case I => first | exact hI | exact hI.snoc
      case len => first | exact Nat.le_succ _ | simp
      case s => k_units
  case done =>
    rintro ρ' led' ⟨T, tt, D, ws, nn, is, b, rfl, rfl, hI, hsc, hil⟩
    have e : ks.take vs.length = ks := by rw [ka.len]; exact List.take_length
    rw [e] at hsc
    (repeat' (first | ((with_reducible refine' Ss.forR (VJ l ks all) ?z9hs ?z9hx ?z9hg ?z9hv ?z9hm ?z9hk ?z9hd ?z9hp ?_ ?z9hf); (case z9hs => assumption); (case z9hx => kernel_rfl!); (case z9hg => k_is); (case z9hv => boot_fast); (case z9hm => decide); (case z9hk => kernel_rfl!); (case z9hd => kernel_rfl); (case z9hp => exact rfl); (case z9hf => (intro _ _; exact rfl))) | ((with_reducible refine' Ex.attrX ?z9hs ?z9hv ?z9hn ?z9m1 ?z9m2 ?z9hD ?z9hl ?z9hh ?_); (case z9hs => assumption); (case z9hv => ksk_a2); (case z9hn => kernel_rfl); (case z9m1 => ksk_a2); (case z9m2 => ksk_a2); (case z9hD => kernel_rfl!); (case z9hl => k_get); (case z9hh => first | exact rfl | k_handed)) | ((with_reducible refine' Ga.node ?z9m1 ?z9m2 ?z9hD ?z9hx ?z9hl ?z9hv ?_); (case z9m1 => ksk_a2); (case z9m2 => ksk_a2); (case z9hD => kernel_rfl!); (case z9hx => kernel_rfl!); (case z9hl => k_get); (case z9hv => first | exact rfl | k_handed)) | ((with_reducible refine' Te.loc ?z9hs ?z9hv ?z9hk ?z9hd ?z9ht ?_); (case z9hs => assumption); (case z9hv => ksk_a2); (case z9hk => kernel_rfl!); (case z9hd => kernel_rfl); (case z9ht => (intro _ _; exact rfl))) | ((with_reducible refine' Te.plain ?z9ht ?_); (case z9ht => (intro _ _; exact rfl))) | (with_reducible refine' ⟨_, rfl, ?_⟩) | ((with_reducible refine' Te.notM ?_)) | ((with_reducible refine' Ss.isiN ?z9hs ?z9hv ?z9hn ?z9hg ?z9m1 ?z9m2 ?z9hD ?_); (case z9hs => assumption); (case z9hv => ksk_a2); (case z9hn => kernel_rfl); (case z9hg => k_is); (case z9m1 => ksk_a2); (case z9m2 => ksk_a2); (case z9hD => kernel_rfl!)) | ((with_reducible refine' Te.isiX false ?z9hs ?z9hv ?z9hn ?z9hg ?z9m1 ?z9m2 ?z9hD ?_); (case z9hs => assumption); (case z9hv => ksk_a2); (case z9hn => kernel_rfl); (case z9hg => k_is); (case z9m1 => ksk_a2); (case z9m2 => ksk_a2); (case z9hD => kernel_rfl!)) | ((with_reducible refine' Te.isiX true ?z9hs ?z9hv ?z9hn ?z9hg ?z9m1 ?z9m2 ?z9hD ?_); (case z9hs => assumption); (case z9hv => ksk_a2); (case z9hn => kernel_rfl); (case z9hg => k_is); (case z9m1 => ksk_a2); (case z9m2 => ksk_a2); (case z9hD => kernel_rfl!)) | ((with_reducible refine' Ca.isi ?z9m1 ?z9m2 ?z9hD ?z9hC false ?z9hb ?_); (case z9m1 => ksk_a2); (case z9m2 => ksk_a2); (case z9hD => kernel_rfl!); (case z9hC => kernel_rfl!); (case z9hb => kernel_rfl!)) | ((with_reducible refine' Ca.isi ?z9m1 ?z9m2 ?z9hD ?z9hC true ?z9hb ?_); (case z9m1 => ksk_a2); (case z9m2 => ksk_a2); (case z9hD => kernel_rfl!); (case z9hC => kernel_rfl!); (case z9hb => kernel_rfl!)) | ((with_reducible refine' Ca.isi ?z9m1 ?z9m2 ?z9hD ?z9hC false ?z9hb ?_); (case z9m1 => ksk_a2); (case z9m2 => ksk_a2); (case z9hD => assumption); (case z9hC => kernel_rfl!); (case z9hb => assumption)) | ((with_reducible refine' Gm.list ?z9m PySem.F.slot_list_append PySem.F.type_list_append ?_); (case z9m => ksk_a2)) | ((with_reducible refine' Gm.list ?z9m PySem.F.slot_list_reverse PySem.F.type_list_reverse ?_); (case z9m => ksk_a2)) | ((with_reducible refine' Ca.app ?z9m ?z9hz ⟨_, ?z9U, ?_⟩); (case z9m => ksk_a2); (case z9hz => assumption); (case z9U => ksk_a1)) | ((with_reducible refine' Cw.bi0 ?_)) | ((with_reducible refine' Cw.b1 ?z9hp ?_); (case z9hp => exact rfl)) | ((with_reducible refine' Exs.locX ?z9hs ?z9hv ?z9hn ?_); (case z9hs => assumption); (case z9hv => ksk_a2); (case z9hn => kernel_rfl)) | ((with_reducible refine' Exs.nil ?_)) | ((with_reducible refine' Exs.bool ?_)) | ((with_reducible refine' Exs.cons ?z9hp ?_); (case z9hp => exact rfl)) | ((with_reducible refine' Ex.locX ?z9hs ?z9hv ?z9hn ?_); (case z9hs => assumption); (case z9hv => ksk_a2); (case z9hn => kernel_rfl)) | ((with_reducible refine' Ex.bool ?_)) | ((with_reducible refine' Ex.tup ?z9hz ?_); (case z9hz => exact rfl)) | ((with_reducible refine' Ex.lst ?z9hz ?_); (case z9hz => exact rfl)) | ((with_reducible refine' Ss.ret ?_)) | ((with_reducible refine' Ss.iteN ?_)) | ((with_reducible refine' Ss.ite ?_)) | ((with_reducible refine' Ss.asgU ?z9hs ?z9hk ?z9hw ?z9hdr ?z9hx ?_); (case z9hs => assumption); (case z9hk => kernel_rfl!); (case z9hw => (intro _; exact rfl)); (case z9hdr => repeat (first | with_reducible exact Drop.head | with_reducible apply Drop.tail)); (case z9hx => kernel_rfl!)) | ((with_reducible refine' Ss.expr ?z9hw ?_); (case z9hw => (intro _; exact rfl))) | ((with_reducible refine' Ss.nil ?_)) | ((with_reducible refine' Ex.sub ?_)) | ((with_reducible refine' Ex.meth ?z9he ?_); (case z9he => exact rfl)) | ((with_reducible refine' Ex.callB ?z9hs ?z9hg ?z9hv ?z9hm ?z9hk ?z9hd ?z9hp ?_); (case z9hs => assumption); (case z9hg => k_is); (case z9hv => boot_fast); (case z9hm => decide); (case z9hk => kernel_rfl!); (case z9hd => kernel_rfl); (case z9hp => exact rfl)) | ((with_reducible refine' Ca.len ?z9m ?z9hk ?z9hz ?_); (case z9m => ksk_a2); (case z9hk => first | (exact len_lit (k := 2) (ki := 2) rfl rfl) | (exact len_lit (k := 1) (ki := 1) rfl rfl) | (exact len_lit (k := 3) (ki := 3) rfl rfl) | (exact len_lit (k := 4) (ki := 4) rfl rfl) | (exact len_lit (k := 0) (ki := 0) rfl rfl) | (exact len_lit (k := 5) (ki := 5) rfl rfl) | (exact len_lit (k := 6) (ki := 6) rfl rfl) | (exact len_lit (k := 7) (ki := 7) rfl rfl) | (exact len_lit (k := 8) (ki := 8) rfl rfl) | (exact len_lit (k := 9) (ki := 9) rfl rfl) | exact ⟨rfl, rfl⟩); (case z9hz => first | exact Nat.le_of_ble_eq_true rfl | omega); intro t9) | ((with_reducible refine' Sb.item ?z9m ?z9ho ?z9h0 ?z9hi ?z9hx ?z9hs ?_); (case z9m => ksk_a2); (case z9ho => first | with_reducible exact SeqO.list | with_reducible exact SeqO.pair | with_reducible exact SeqO.tup); (case z9h0 => first | decide | omega); (case z9hi => first | decide | omega); (case z9hx => first | exact rfl | assumption); (case z9hs => exact rfl)) | ((with_reducible refine' Ss.asg2s ?z9hs ?z9hx ?z9hy ?z9hw ?z9hn ?_); (case z9hs => assumption); (case z9hx => kernel_rfl!); (case z9hy => kernel_rfl!); (case z9hw => (intro _; exact rfl)); (case z9hn => (intro _ _ _ _ _; kernel_rfl!))) | ((with_reducible refine' ⟨_, _, _, _, _, _, rfl, ?z9m, ?z9d1, ?z9d2, ?_⟩); (case z9m => ksk_a2); (case z9d1 => first | ((refine' Drp.same ?_); kernel_rfl!) | ((refine' Drp.out ?z9x ?z9y); (case z9x => repeat (first | with_reducible exact Drop.head | with_reducible apply Drop.tail)); (case z9y => kernel_rfl!))); (case z9d2 => first | ((refine' Drp.same ?_); kernel_rfl!) | ((refine' Drp.out ?z9x ?z9y); (case z9x => repeat (first | with_reducible exact Drop.head | with_reducible apply Drop.tail)); (case z9y => kernel_rfl!)))) | ((with_reducible refine' Ex.gloX ?z9hs ?z9e ?z9hn ?_); (case z9hs => assumption); (case z9e => k_is); (case z9hn => kernel_rfl)) | (with_reducible intro a9) | ((with_reducible refine' Ex.attrA ?z9he ?_); (case z9he => (intro _; first | exact rfl | with_unfolding_all rfl)))))
    all_goals (with_reducible refine Fin.mk (by ki_room) (by ki_room) ?_)
    refine .mk (by ksk_a2) (by rw [hsc]; exact hI)
theorem oper_ok {w : World} (Pt : PartC w) (Vr : VarsC w) (Ow : OwnC w) (Pa : PatAll w) : ∀ {led : Led} {a : Addr} {x : Str} {p q : PE}, OperIn led a x p q false → x ∈ goodNames → RD w 64 840 [.ref a] led (O_fn x [p, q]) := by
  intro led b x p1 q1 op hx
  obtain ⟨m1, m2, m3, sd1, sd2, o1, zi⟩ := op
  cases zi
  rw [List.append_nil] at m3
  have z1 := sd1.ok.2
  have z2 := sd2.ok.2
  have z3 := sd1.len
  have z4 := sd2.len
  have o2 := o1
  cases o2
  refine RD.enter (binds := [("left", .ref b)]) (by kas_ty) ?_
  intro G all hw hs hn sub
  (repeat' (first | ((with_reducible refine' ⟨_, _, _, rfl, rfl, ?z9e, ?_⟩); (case z9e => first | exact pick_lo | exact pick_hi); intro D9) | ((with_reducible refine' ⟨_, _, _, rfl, ?z9m, ?z9hz, ?_⟩); (case z9m => ksk_a2); (case z9hz => first | assumption | exact Nat.le_of_ble_eq_true rfl | (simp only [List.length_append, List.length_cons, List.length_nil]; omega) | omega)) | ((with_reducible refine' Ex.slHi ?z9hs ?_); (case z9hs => (intro _ _; exact ⟨_, rfl⟩))) | ((with_reducible refine' Ex.slLo ?z9hs ?_); (case z9hs => (intro _ _; exact ⟨_, rfl⟩))) | ((with_reducible refine' Ca.rd ?z9hw ?z9hn ?z9C ?z9sb ?_); (case z9C => first | with_reducible exact VarsC.use0 Vr sd1 sd2 o1 m3 (fun _ h => h)); (case z9hw => assumption); (case z9hn => first | assumption | exact Nat.le_trans (Nat.le_of_ble_eq_true rfl) (by assumption) | omega); (case z9sb => k_units); intro v9 tl9 sb9 o9; rcases o9 with ⟨M9, I9⟩; obtain ⟨t9, q9⟩ := ints1 I9; subst q9; clear I9) | ((with_reducible refine' Ca.part ?z9hw ?z9hn Pt ?z9ml ?z9P ?z9sb ?_); (case z9hw => assumption); (case z9hn => first | assumption | exact Nat.le_trans (Nat.le_of_ble_eq_true rfl) (by assumption) | omega); (case z9ml => ksk_a2); (case z9P => assumption); (case z9sb => k_units); intro b9 tl9 sb9 p9) | ((with_reducible refine' Ca.rd0 ?z9hw ?z9hn ?z9C ?_); (case z9C => first | with_reducible exact OwnC.use Ow (by assumption)); (case z9hw => assumption); (case z9hn => first | assumption | exact Nat.le_trans (Nat.le_of_ble_eq_true rfl) (by assumption) | omega); intro v9 tl9 o9; cases o9) | ((with_reducible refine' Ca.rd ?z9hw ?z9hn ?z9C ?z9sb ?_); (case z9C => first | with_reducible exact PatAll.use Pa (by assumption)); (case z9hw => assumption); (case z9hn => first | assumption | exact Nat.le_trans (Nat.le_of_ble_eq_true rfl) (by assumption) | omega); (case z9sb => k_units); intro v9 tl9 sb9 o9; cases o9) | ((with_reducible refine' Ex.attrX ?z9hs ?z9hv ?z9hn ?z9m1 ?z9m2 ?z9hD ?z9hl ?z9hh ?_); (case z9hs => assumption); (case z9hv => ksk_a2); (case z9hn => kernel_rfl); (case z9m1 => ksk_a2); (case z9m2 => ksk_a2); (case z9hD => kernel_rfl!); (case z9hl => k_get); (case z9hh => first | exact rfl | k_handed)) | ((with_reducible refine' Ga.node ?z9m1 ?z9m2 ?z9hD ?z9hx ?z9hl ?z9hv ?_); (case z9m1 => ksk_a2); (case z9m2 => ksk_a2); (case z9hD => kernel_rfl!); (case z9hx => kernel_rfl!); (case z9hl => k_get); (case z9hv => first | exact rfl | k_handed)) | ((with_reducible refine' Sb.item ?z9m ?z9ho ?z9h0 ?z9hi ?z9hx ?z9hs ?_); (case z9m => ksk_a2); (case z9ho => with_reducible exact SeqO.list); (case z9h0 => omega); (case z9hi => omega); (case z9hx => exact at_mid); (case z9hs => exact rfl)) | ((with_reducible refine' Exs.locX ?z9hs ?z9hv ?z9hn ?_); (case z9hs => assumption); (case z9hv => ksk_a2); (case z9hn => kernel_rfl)) | ((with_reducible refine' Exs.nil ?_)) | ((with_reducible refine' Exs.cons ?z9hp ?_); (case z9hp => exact rfl)) | ((with_reducible refine' Ex.locX ?z9hs ?z9hv ?z9hn ?_); (case z9hs => assumption); (case z9hv => ksk_a2); (case z9hn => kernel_rfl)) | ((with_reducible refine' Ex.callFX ?z9hs ?z9hg ?z9hf ?z9hn ?_); (case z9hs => assumption); (case z9hg => k_is); (case z9hf => k_is); (case z9hn => kernel_rfl)) | ((with_reducible refine' Ex.int ?_); intro t9) | ((with_reducible refine' Ex.tup ?z9hz ?_); (case z9hz => exact rfl)) | ((with_reducible refine' Ex.lst ?z9hz ?_); (case z9hz => exact rfl)) | ((with_reducible refine' Ss.ret ?_)) | ((with_reducible refine' Ss.iteR ?_)) | ((with_reducible refine' Ss.iteN ?_)) | ((with_reducible refine' Ss.asg ?z9hs ?z9hk ?z9hw ?z9hx ?_); (case z9hs => assumption); (case z9hk => kernel_rfl!); (case z9hw => (intro _; exact rfl)); (case z9hx => kernel_rfl!)) | ((with_reducible refine' Te.cmp ?z9hm ?_); (case z9hm => exact rfl)) | ((with_reducible refine' Cm.gtI (c := true) ?z9hc ?_); (case z9hc => first | assumption | kernel_rfl!)) | ((with_reducible refine' Cm.gtI (c := false) ?z9hc ?_); (case z9hc => first | assumption | kernel_rfl!)) | ((with_reducible refine' Cm.eqL ?z9m ?z9n ?z9e ?_); (case z9m => ksk_a2); (case z9n => ksk_a2); (case z9e => exact rfl)) | ((with_reducible refine' Ex.bin ?_)) | ((with_reducible refine' Ex.itemX ?z9hs ?z9hv ?z9hn ?z9m ?z9ho ?z9hi ?z9hx ?_); (case z9hs => assumption); (case z9hv => ksk_a2); (case z9hn => kernel_rfl); (case z9m => ksk_a2); (case z9ho => first | with_reducible exact SeqO.list | with_reducible exact SeqO.pair | with_reducible exact SeqO.tup); (case z9hi => kernel_rfl); (case z9hx => first | exact rfl | assumption)) | ((with_reducible refine' Ex.sub ?_)) | ((with_reducible refine' Ex.callB ?z9hs ?z9hg ?z9hv ?z9hm ?z9hk ?z9hd ?z9hp ?_); (case z9hs => assumption); (case z9hg => k_is); (case z9hv => boot_fast); (case z9hm => decide); (case z9hk => kernel_rfl!); (case z9hd => kernel_rfl); (case z9hp => exact rfl)) | ((with_reducible refine' Bi.addI ?_); intro t9) | ((with_reducible refine' Ca.len ?z9m ?z9hk ?z9hz ?_); (case z9m => ksk_a2); (case z9hk => first | (exact len_lit (k := 2) (ki := 2) rfl rfl) | (exact len_lit (k := 1) (ki := 1) rfl rfl) | (exact len_lit (k := 3) (ki := 3) rfl rfl) | (exact len_lit (k := 4) (ki := 4) rfl rfl) | (exact len_lit (k := 0) (ki := 0) rfl rfl) | (exact len_lit (k := 5) (ki := 5) rfl rfl) | (exact len_lit (k := 6) (ki := 6) rfl rfl) | (exact len_lit (k := 7) (ki := 7) rfl rfl) | (exact len_lit (k := 8) (ki := 8) rfl rfl) | (exact len_lit (k := 9) (ki := 9) rfl rfl) | exact ⟨rfl, rfl⟩); (case z9hz => first | exact Nat.le_of_ble_eq_true rfl | omega); intro t9) | ((with_reducible refine' Ss.asg2s ?z9hs ?z9hx ?z9hy ?z9hw ?z9hn ?_); (case z9hs => assumption); (case z9hx => kernel_rfl!); (case z9hy => kernel_rfl!); (case z9hw => (intro _; exact rfl)); (case z9hn => (intro _ _ _ _ _; kernel_rfl!))) | ((with_reducible refine' ⟨_, _, _, _, _, _, rfl, ?z9m, ?z9d1, ?z9d2, ?_⟩); (case z9m => ksk_a2); (case z9d1 => first | ((refine' Drp.same ?_); kernel_rfl!) | ((refine' Drp.out ?z9x ?z9y); (case z9x => repeat (first | with_reducible exact Drop.head | with_reducible apply Drop.tail)); (case z9y => kernel_rfl!))); (case z9d2 => first | ((refine' Drp.same ?_); kernel_rfl!) | ((refine' Drp.out ?z9x ?z9y); (case z9x => repeat (first | with_reducible exact Drop.head | with_reducible apply Drop.tail)); (case z9y => kernel_rfl!)))) | (with_reducible intro a9) | ((with_reducible refine' Ex.attrA ?z9he ?_); (case z9he => (intro _; first | exact rfl | with_unfolding_all rfl)))))
  all_goals (with_reducible refine Fin.mk (by ki_room) (by ki_room) ?_)
  all_goals exact .mk (by ksk_a2) (by ksk_a2) (.cons (PatIn.mono (by assumption) (by k_units)) (.cons (PatIn.mono (by assumption) (by k_units)) .nil))
theorem oper_two {w : World} (Pt : PartC w) (Vr : VarsC w) : ∀ {led : Led} {a : Addr} {x : Str} {p q : PE}, OperIn led a x p q true → RE w 64 840 [.ref a] led := by
  intro led b x p1 q1 op
  obtain ⟨m1, m2, m3, sd1, sd2, o1, zi⟩ := op
  refine RE.enter (binds := [("left", .ref b)]) (by kas_ty) ?_
  intro G all all0 hw hs hn hS hx s0 sub
  (repeat' (first | ((with_reducible refine' Ss.raise ?z9hS ?z9hx ?z9hM ?_); (case z9hS => assumption); (case z9hx => assumption); (case z9hM => exact mk45 _)) | ((with_reducible refine' Ca.errX ?z9hn ?z9hne ?z9s0); (case z9hn => omega); (case z9hne => kernel_rfl!); (case z9s0 => k_units)) | ((with_reducible refine' ⟨_, _, _, rfl, rfl, ?z9e, ?_⟩); (case z9e => first | exact pick_lo | exact pick_hi); intro D9) | ((with_reducible refine' ⟨_, _, _, rfl, ?z9m, ?z9hz, ?_⟩); (case z9m => ksk_a2); (case z9hz => first | assumption | exact Nat.le_of_ble_eq_true rfl | (simp only [List.length_append, List.length_cons, List.length_nil]; omega) | omega)) | ((with_reducible refine' Ex.slHi ?z9hs ?_); (case z9hs => (intro _ _; exact ⟨_, rfl⟩))) | ((with_reducible refine' Ex.slLo ?z9hs ?_); (case z9hs => (intro _ _; exact ⟨_, rfl⟩))) | ((with_reducible refine' Ca.rd ?z9hw ?z9hn ?z9C ?z9sb ?_); (case z9C => first | with_reducible exact VarsC.use2 Vr sd1 sd2 o1 zi m3 (fun _ h => h)); (case z9hw => assumption); (case z9hn => first | assumption | exact Nat.le_trans (Nat.le_of_ble_eq_true rfl) (by assumption) | omega); (case z9sb => k_units); intro v9 tl9 sb9 o9; rcases o9 with ⟨M9, I9⟩; obtain ⟨t9, u9, q9⟩ := ints2 I9; subst q9; clear I9) | ((with_reducible refine' Ca.rd ?z9hw ?z9hn ?z9C ?z9sb ?_); (case z9C => first | with_reducible exact VarsC.use0 Vr sd1 sd2 o1 m3 (fun _ h => h)); (case z9hw => assumption); (case z9hn => first | assumption | exact Nat.le_trans (Nat.le_of_ble_eq_true rfl) (by assumption) | omega); (case z9sb => k_units); intro v9 tl9 sb9 o9; rcases o9 with ⟨M9, I9⟩; obtain ⟨t9, q9⟩ := ints1 I9; subst q9; clear I9) | ((with_reducible refine' Ca.part ?z9hw ?z9hn Pt ?z9ml ?z9P ?z9sb ?_); (case z9hw => assumption); (case z9hn => first | assumption | exact Nat.le_trans (Nat.le_of_ble_eq_true rfl) (by assumption) | omega); (case z9ml => ksk_a2); (case z9P => assumption); (case z9sb => k_units); intro b9 tl9 sb9 p9) | ((with_reducible refine' Ca.re ?z9hw ?z9hn ?z9hS ?z9hx ?z9C ?z9s0 ?z9sb); (case z9C => first | with_reducible exact OwnE.use Ow (by assumption)); (case z9hw => assumption); (case z9hn => first | assumption | exact Nat.le_trans (Nat.le_of_ble_eq_true rfl) (by assumption) | omega); (case z9hS => assumption); (case z9hx => assumption); (case z9s0 => k_units); (case z9sb => k_units)) | ((with_reducible refine' Ex.attrX ?z9hs ?z9hv ?z9hn ?z9m1 ?z9m2 ?z9hD ?z9hl ?z9hh ?_); (case z9hs => assumption); (case z9hv => ksk_a2); (case z9hn => kernel_rfl); (case z9m1 => ksk_a2); (case z9m2 => ksk_a2); (case z9hD => kernel_rfl!); (case z9hl => k_get); (case z9hh => first | exact rfl | k_handed)) | ((with_reducible refine' Ga.node ?z9m1 ?z9m2 ?z9hD ?z9hx ?z9hl ?z9hv ?_); (case z9m1 => ksk_a2); (case z9m2 => ksk_a2); (case z9hD => kernel_rfl!); (case z9hx => kernel_rfl!); (case z9hl => k_get); (case z9hv => first | exact rfl | k_handed)) | ((with_reducible refine' Sb.item ?z9m ?z9ho ?z9h0 ?z9hi ?z9hx ?z9hs ?_); (case z9m => ksk_a2); (case z9ho => with_reducible exact SeqO.list); (case z9h0 => omega); (case z9hi => omega); (case z9hx => exact at_mid); (case z9hs => exact rfl)) | ((with_reducible refine' Exs.locX ?z9hs ?z9hv ?z9hn ?_); (case z9hs => assumption); (case z9hv => ksk_a2); (case z9hn => kernel_rfl)) | ((with_reducible refine' Exs.nil ?_)) | ((with_reducible refine' Exs.str ?_); intro t9) | ((with_reducible refine' Exs.cons ?z9hp ?_); (case z9hp => exact rfl)) | ((with_reducible refine' Ex.locX ?z9hs ?z9hv ?z9hn ?_); (case z9hs => assumption); (case z9hv => ksk_a2); (case z9hn => kernel_rfl)) | ((with_reducible refine' Ex.callFX ?z9hs ?z9hg ?z9hf ?z9hn ?_); (case z9hs => assumption); (case z9hg => k_is); (case z9hf => k_is); (case z9hn => kernel_rfl)) | ((with_reducible refine' Ex.int ?_); intro t9) | ((with_reducible refine' Ex.tup ?z9hz ?_); (case z9hz => exact rfl)) | ((with_reducible refine' Ex.lst ?z9hz ?_); (case z9hz => exact rfl)) | ((with_reducible refine' Ss.ret ?_)) | ((with_reducible refine' Ss.iteR ?_)) | ((with_reducible refine' Ss.iteN ?_)) | ((with_reducible refine' Ss.asg ?z9hs ?z9hk ?z9hw ?z9hx ?_); (case z9hs => assumption); (case z9hk => kernel_rfl!); (case z9hw => (intro _; exact rfl)); (case z9hx => kernel_rfl!)) | ((with_reducible refine' Te.cmp ?z9hm ?_); (case z9hm => exact rfl)) | ((with_reducible refine' Cm.gtI (c := true) ?z9hc ?_); (case z9hc => first | assumption | kernel_rfl!)) | ((with_reducible refine' Cm.gtI (c := false) ?z9hc ?_); (case z9hc => first | assumption | kernel_rfl!)) | ((with_reducible refine' Cm.eqL ?z9m ?z9n ?z9e ?_); (case z9m => ksk_a2); (case z9n => ksk_a2); (case z9e => exact rfl)) | ((with_reducible refine' Ex.bin ?_)) | ((with_reducible refine' Ex.itemX ?z9hs ?z9hv ?z9hn ?z9m ?z9ho ?z9hi ?z9hx ?_); (case z9hs => assumption); (case z9hv => ksk_a2); (case z9hn => kernel_rfl); (case z9m => ksk_a2); (case z9ho => first | with_reducible exact SeqO.list | with_reducible exact SeqO.pair | with_reducible exact SeqO.tup); (case z9hi => kernel_rfl); (case z9hx => first | exact rfl | assumption)) | ((with_reducible refine' Ex.sub ?_)) | ((with_reducible refine' Ex.callB ?z9hs ?z9hg ?z9hv ?z9hm ?z9hk ?z9hd ?z9hp ?_); (case z9hs => assumption); (case z9hg => k_is); (case z9hv => boot_fast); (case z9hm => decide); (case z9hk => kernel_rfl!); (case z9hd => kernel_rfl); (case z9hp => exact rfl)) | ((with_reducible refine' Bi.addI ?_); intro t9) | ((with_reducible refine' Ca.len ?z9m ?z9hk ?z9hz ?_); (case z9m => ksk_a2); (case z9hk => first | (exact len_lit (k := 2) (ki := 2) rfl rfl) | (exact len_lit (k := 1) (ki := 1) rfl rfl) | (exact len_lit (k := 3) (ki := 3) rfl rfl) | (exact len_lit (k := 4) (ki := 4) rfl rfl) | (exact len_lit (k := 0) (ki := 0) rfl rfl) | (exact len_lit (k := 5) (ki := 5) rfl rfl) | (exact len_lit (k := 6) (ki := 6) rfl rfl) | (exact len_lit (k := 7) (ki := 7) rfl rfl) | (exact len_lit (k := 8) (ki := 8) rfl rfl) | (exact len_lit (k := 9) (ki := 9) rfl rfl) | exact ⟨rfl, rfl⟩); (case z9hz => first | exact Nat.le_of_ble_eq_true rfl | omega); intro t9) | ((with_reducible refine' Ss.asg2s ?z9hs ?z9hx ?z9hy ?z9hw ?z9hn ?_); (case z9hs => assumption); (case z9hx => kernel_rfl!); (case z9hy => kernel_rfl!); (case z9hw => (intro _; exact rfl)); (case z9hn => (intro _ _ _ _ _; kernel_rfl!))) | ((with_reducible refine' ⟨_, _, _, _, _, _, rfl, ?z9m, ?z9d1, ?z9d2, ?_⟩); (case z9m => ksk_a2); (case z9d1 => first | ((refine' Drp.same ?_); kernel_rfl!) | ((refine' Drp.out ?z9x ?z9y); (case z9x => repeat (first | with_reducible exact Drop.head | with_reducible apply Drop.tail)); (case z9y => kernel_rfl!))); (case z9d2 => first | ((refine' Drp.same ?_); kernel_rfl!) | ((refine' Drp.out ?z9x ?z9y); (case z9x => repeat (first | with_reducible exact Drop.head | with_reducible apply Drop.tail)); (case z9y => kernel_rfl!)))) | (with_reducible intro a9) | ((with_reducible refine' Ex.attrA ?z9he ?_); (case z9he => (intro _; first | exact rfl | with_unfolding_all rfl)))))
theorem oper_bad {w : World} (Pt : PartC w) (Vr : VarsC w) (Ow : OwnE w) : ∀ {led : Led} {a : Addr} {x : Str} {p q : PE}, OperIn led a x p q false → x ∈ badNames → RE w 64 840 [.ref a] led := by
  intro led b x p1 q1 op hx
  obtain ⟨m1, m2, m3, sd1, sd2, o1, zi⟩ := op
  cases zi
  rw [List.append_nil] at m3
  have z3 := sd1.len
  have z4 := sd2.len
  have o2 := o1
  cases o2
  refine RE.enter (binds := [("left", .ref b)]) (by kas_ty) ?_
  intro G all all0 hw hs hn hS hx9 s0 sub
  (repeat' (first | ((with_reducible refine' Ss.raise ?z9hS ?z9hx ?z9hM ?_); (case z9hS => assumption); (case z9hx => assumption); (case z9hM => exact mk45 _)) | ((with_reducible refine' Ca.errX ?z9hn ?z9hne ?z9s0); (case z9hn => omega); (case z9hne => kernel_rfl!); (case z9s0 => k_units)) | ((with_reducible refine' ⟨_, _, _, rfl, rfl, ?z9e, ?_⟩); (case z9e => first | exact pick_lo | exact pick_hi); intro D9) | ((with_reducible refine' ⟨_, _, _, rfl, ?z9m, ?z9hz, ?_⟩); (case z9m => ksk_a2); (case z9hz => first | assumption | exact Nat.le_of_ble_eq_true rfl | (simp only [List.length_append, List.length_cons, List.length_nil]; omega) | omega)) | ((with_reducible refine' Ex.slHi ?z9hs ?_); (case z9hs => (intro _ _; exact ⟨_, rfl⟩))) | ((with_reducible refine' Ex.slLo ?z9hs ?_); (case z9hs => (intro _ _; exact ⟨_, rfl⟩))) | ((with_reducible refine' Ca.rd ?z9hw ?z9hn ?z9C ?z9sb ?_); (case z9C => first | with_reducible exact VarsC.use2 Vr sd1 sd2 o1 zi m3 (fun _ h => h)); (case z9hw => assumption); (case z9hn => first | assumption | exact Nat.le_trans (Nat.le_of_ble_eq_true rfl) (by assumption) | omega); (case z9sb => k_units); intro v9 tl9 sb9 o9; rcases o9 with ⟨M9, I9⟩; obtain ⟨t9, u9, q9⟩ := ints2 I9; subst q9; clear I9) | ((with_reducible refine' Ca.rd ?z9hw ?z9hn ?z9C ?z9sb ?_); (case z9C => first | with_reducible exact VarsC.use0 Vr sd1 sd2 o1 m3 (fun _ h => h)); (case z9hw => assumption); (case z9hn => first | assumption | exact Nat.le_trans (Nat.le_of_ble_eq_true rfl) (by assumption) | omega); (case z9sb => k_units); intro v9 tl9 sb9 o9; rcases o9 with ⟨M9, I9⟩; obtain ⟨t9, q9⟩ := ints1 I9; subst q9; clear I9) | ((with_reducible refine' Ca.part ?z9hw ?z9hn Pt ?z9ml ?z9P ?z9sb ?_); (case z9hw => assumption); (case z9hn => first | assumption | exact Nat.le_trans (Nat.le_of_ble_eq_true rfl) (by assumption) | omega); (case z9ml => ksk_a2); (case z9P => assumption); (case z9sb => k_units); intro b9 tl9 sb9 p9) | ((with_reducible refine' Ca.re ?z9hw ?z9hn ?z9hS ?z9hx ?z9C ?z9s0 ?z9sb); (case z9C => first | with_reducible exact OwnE.use Ow (by assumption)); (case z9hw => assumption); (case z9hn => first | assumption | exact Nat.le_trans (Nat.le_of_ble_eq_true rfl) (by assumption) | omega); (case z9hS => assumption); (case z9hx => assumption); (case z9s0 => k_units); (case z9sb => k_units)) | ((with_reducible refine' Ex.attrX ?z9hs ?z9hv ?z9hn ?z9m1 ?z9m2 ?z9hD ?z9hl ?z9hh ?_); (case z9hs => assumption); (case z9hv => ksk_a2); (case z9hn => kernel_rfl); (case z9m1 => ksk_a2); (case z9m2 => ksk_a2); (case z9hD => kernel_rfl!); (case z9hl => k_get); (case z9hh => first | exact rfl | k_handed)) | ((with_reducible refine' Ga.node ?z9m1 ?z9m2 ?z9hD ?z9hx ?z9hl ?z9hv ?_); (case z9m1 => ksk_a2); (case z9m2 => ksk_a2); (case z9hD => kernel_rfl!); (case z9hx => kernel_rfl!); (case z9hl => k_get); (case z9hv => first | exact rfl | k_handed)) | ((with_reducible refine' Sb.item ?z9m ?z9ho ?z9h0 ?z9hi ?z9hx ?z9hs ?_); (case z9m => ksk_a2); (case z9ho => with_reducible exact SeqO.list); (case z9h0 => omega); (case z9hi => omega); (case z9hx => exact at_mid); (case z9hs => exact rfl)) | ((with_reducible refine' Exs.locX ?z9hs ?z9hv ?z9hn ?_); (case z9hs => assumption); (case z9hv => ksk_a2); (case z9hn => kernel_rfl)) | ((with_reducible refine' Exs.nil ?_)) | ((with_reducible refine' Exs.str ?_); intro t9) | ((with_reducible refine' Exs.cons ?z9hp ?_); (case z9hp => exact rfl)) | ((with_reducible refine' Ex.locX ?z9hs ?z9hv ?z9hn ?_); (case z9hs => assumption); (case z9hv => ksk_a2); (case z9hn => kernel_rfl)) | ((with_reducible refine' Ex.callFX ?z9hs ?z9hg ?z9hf ?z9hn ?_); (case z9hs => assumption); (case z9hg => k_is); (case z9hf => k_is); (case z9hn => kernel_rfl)) | ((with_reducible refine' Ex.int ?_); intro t9) | ((with_reducible refine' Ex.tup ?z9hz ?_); (case z9hz => exact rfl)) | ((with_reducible refine' Ex.lst ?z9hz ?_); (case z9hz => exact rfl)) | ((with_reducible refine' Ss.ret ?_)) | ((with_reducible refine' Ss.iteR ?_)) | ((with_reducible refine' Ss.iteN ?_)) | ((with_reducible refine' Ss.asg ?z9hs ?z9hk ?z9hw ?z9hx ?_); (case z9hs => assumption); (case z9hk => kernel_rfl!); (case z9hw => (intro _; exact rfl)); (case z9hx => kernel_rfl!)) | ((with_reducible refine' Te.cmp ?z9hm ?_); (case z9hm => exact rfl)) | ((with_reducible refine' Cm.gtI (c := true) ?z9hc ?_); (case z9hc => first | assumption | kernel_rfl!)) | ((with_reducible refine' Cm.gtI (c := false) ?z9hc ?_); (case z9hc => first | assumption | kernel_rfl!)) | ((with_reducible refine' Cm.eqL ?z9m ?z9n ?z9e ?_); (case z9m => ksk_a2); (case z9n => ksk_a2); (case z9e => exact rfl)) | ((with_reducible refine' Ex.bin ?_)) | ((with_reducible refine' Ex.itemX ?z9hs ?z9hv ?z9hn ?z9m ?z9ho ?z9hi ?z9hx ?_); (case z9hs => assumption); (case z9hv => ksk_a2); (case z9hn => kernel_rfl); (case z9m => ksk_a2); (case z9ho => first | with_reducible exact SeqO.list | with_reducible exact SeqO.pair | with_reducible exact SeqO.tup); (case z9hi => kernel_rfl); (case z9hx => first | exact rfl | assumption)) | ((with_reducible refine' Ex.sub ?_)) | ((with_reducible refine' Ex.callB ?z9hs ?z9hg ?z9hv ?z9hm ?z9hk ?z9hd ?z9hp ?_); (case z9hs => assumption); (case z9hg => k_is); (case z9hv => boot_fast); (case z9hm => decide); (case z9hk => kernel_rfl!); (case z9hd => kernel_rfl); (case z9hp => exact rfl)) | ((with_reducible refine' Bi.addI ?_); intro t9) | ((with_reducible refine' Ca.len ?z9m ?z9hk ?z9hz ?_); (case z9m => ksk_a2); (case z9hk => first | (exact len_lit (k := 2) (ki := 2) rfl rfl) | (exact len_lit (k := 1) (ki := 1) rfl rfl) | (exact len_lit (k := 3) (ki := 3) rfl rfl) | (exact len_lit (k := 4) (ki := 4) rfl rfl) | (exact len_lit (k := 0) (ki := 0) rfl rfl) | (exact len_lit (k := 5) (ki := 5) rfl rfl) | (exact len_lit (k := 6) (ki := 6) rfl rfl) | (exact len_lit (k := 7) (ki := 7) rfl rfl) | (exact len_lit (k := 8) (ki := 8) rfl rfl) | (exact len_lit (k := 9) (ki := 9) rfl rfl) | exact ⟨rfl, rfl⟩); (case z9hz => first | exact Nat.le_of_ble_eq_true rfl | omega); intro t9) | ((with_reducible refine' Ss.asg2s ?z9hs ?z9hx ?z9hy ?z9hw ?z9hn ?_); (case z9hs => assumption); (case z9hx => kernel_rfl!); (case z9hy => kernel_rfl!); (case z9hw => (intro _; exact rfl)); (case z9hn => (intro _ _ _ _ _; kernel_rfl!))) | ((with_reducible refine' ⟨_, _, _, _, _, _, rfl, ?z9m, ?z9d1, ?z9d2, ?_⟩); (case z9m => ksk_a2); (case z9d1 => first | ((refine' Drp.same ?_); kernel_rfl!) | ((refine' Drp.out ?z9x ?z9y); (case z9x => repeat (first | with_reducible exact Drop.head | with_reducible apply Drop.tail)); (case z9y => kernel_rfl!))); (case z9d2 => first | ((refine' Drp.same ?_); kernel_rfl!) | ((refine' Drp.out ?z9x ?z9y); (case z9x => repeat (first | with_reducible exact Drop.head | with_reducible apply Drop.tail)); (case z9y => kernel_rfl!)))) | (with_reducible intro a9) | ((with_reducible refine' Ex.attrA ?z9he ?_); (case z9he => (intro _; first | exact rfl | with_unfolding_all rfl)))))
theorem named_ok {w : World} (Sp : SpineC w) (Ow : OwnC w) (Pa : PatAll w) : ∀ {led : Led} {a : Addr} {x : Str} {ps : List PE}, NamedIn led a x ps → x ∈ goodNames → OkAll ps → RD w 70 845 [.ref a] led (O_fn x ps) := by
  intro led b x ps nm hx ok
  obtain ⟨f, v, c⟩ := nm.four
  clear nm
  cases v
  rcases c with ⟨rfl, sp, v⟩ | ⟨p1, b1, rfl, sp, r1, g, c, ap⟩ | ⟨p1, b1, p2, b2, rfl, sp, r1, r2, g, c, ap⟩ | ⟨p1, b1, p2, b2, p3, b3, rfl, sp, r1, r2, r3, g, c, ap⟩
  · cases v
    refine RD.enter (binds := [("left", .ref b)]) (by kas_ty) ?_
    intro G all hw hs hn sub
    (repeat' (first | ((with_reducible refine' Ca.rd ?z9hw ?z9hn ?z9C ?z9sb ?_); (case z9C => first | with_reducible exact SpineC.use Sp sp); (case z9hw => assumption); (case z9hn => first | assumption | exact Nat.le_trans (Nat.le_of_ble_eq_true rfl) (by assumption) | omega); (case z9sb => k_units); intro v9 tl9 sb9 o9; cases o9) | ((with_reducible refine' Ca.rd0 ?z9hw ?z9hn ?z9C ?_); (case z9C => first | with_reducible exact OwnC.use Ow (by assumption)); (case z9hw => assumption); (case z9hn => first | assumption | exact Nat.le_trans (Nat.le_of_ble_eq_true rfl) (by assumption) | omega); intro v9 tl9 o9; cases o9) | ((with_reducible refine' Te.plain ?z9ht ?_); (case z9ht => (intro _ _; exact rfl))) | (with_reducible refine' ⟨_, rfl, ?_⟩) | ((with_reducible refine' Ss.isiN ?z9hs ?z9hv ?z9hn ?z9hg ?z9m1 ?z9m2 ?z9hD ?_); (case z9hs => assumption); (case z9hv => ksk_a2); (case z9hn => kernel_rfl); (case z9hg => k_is); (case z9m1 => ksk_a2); (case z9m2 => ksk_a2); (case z9hD => kernel_rfl!)) | ((with_reducible refine' Te.isiX false ?z9hs ?z9hv ?z9hn ?z9hg ?z9m1 ?z9m2 ?z9hD ?_); (case z9hs => assumption); (case z9hv => ksk_a2); (case z9hn => kernel_rfl); (case z9hg => k_is); (case z9m1 => ksk_a2); (case z9m2 => ksk_a2); (case z9hD => kernel_rfl!)) | ((with_reducible refine' Te.isiX true ?z9hs ?z9hv ?z9hn ?z9hg ?z9m1 ?z9m2 ?z9hD ?_); (case z9hs => assumption); (case z9hv => ksk_a2); (case z9hn => kernel_rfl); (case z9hg => k_is); (case z9m1 => ksk_a2); (case z9m2 => ksk_a2); (case z9hD => kernel_rfl!)) | ((with_reducible refine' Ca.isi ?z9m1 ?z9m2 ?z9hD ?z9hC false ?z9hb ?_); (case z9m1 => ksk_a2); (case z9m2 => ksk_a2); (case z9hD => kernel_rfl!); (case z9hC => kernel_rfl!); (case z9hb => kernel_rfl!)) | ((with_reducible refine' Ca.isi ?z9m1 ?z9m2 ?z9hD ?z9hC true ?z9hb ?_); (case z9m1 => ksk_a2); (case z9m2 => ksk_a2); (case z9hD => kernel_rfl!); (case z9hC => kernel_rfl!); (case z9hb => kernel_rfl!)) | ((with_reducible refine' Ex.attrX ?z9hs ?z9hv ?z9hn ?z9m1 ?z9m2 ?z9hD ?z9hl ?z9hh ?_); (case z9hs => assumption); (case z9hv => ksk_a2); (case z9hn => kernel_rfl); (case z9m1 => ksk_a2); (case z9m2 => ksk_a2); (case z9hD => kernel_rfl!); (case z9hl => k_get); (case z9hh => first | exact rfl | k_handed)) | ((with_reducible refine' Ga.node ?z9m1 ?z9m2 ?z9hD ?z9hx ?z9hl ?z9hv ?_); (case z9m1 => ksk_a2); (case z9m2 => ksk_a2); (case z9hD => kernel_rfl!); (case z9hx => kernel_rfl!); (case z9hl => k_get); (case z9hv => first | exact rfl | k_handed)) | ((with_reducible refine' Ex.compF ?z9hg ?z9hf ?z9hk ?z9hd ?z9hxd ?z9hclos ?z9hcell ?z9hkind ?z9hnames ?z9hx ?z9hfs ?_); (case z9hg => k_is); (case z9hf => k_is); (case z9hk => kernel_rfl!); (case z9hd => kernel_rfl); (case z9hxd => kernel_rfl); (case z9hclos => exact rfl); (case z9hcell => kernel_rfl); (case z9hkind => exact rfl); (case z9hnames => kernel_rfl); (case z9hx => kernel_rfl!); (case z9hfs => (intro _ _; exact rfl)); intro m9) | ((with_reducible refine' ⟨_, _, _, rfl, ?z9m, ?z9hz, ?_⟩); (case z9m => ksk_a2); (case z9hz => exact Nat.le_of_ble_eq_true rfl)) | ((with_reducible refine' MapC.cons (FRd.mk ?z9hw ?z9hn ?z9C ?z9sb ?_)); (case z9hw => assumption); (case z9C => exact PatAll.use Pa (by assumption)); (case z9hn => omega); (case z9sb => k_units); intro r9 tl9 sb9 o9; cases o9; (refine' ⟨?z9m, ?_⟩; (case z9m => ksk_a2))) | ((with_reducible refine' MapC.nil ?_); intro D9) | ((with_reducible refine' Exs.locX ?z9hs ?z9hv ?z9hn ?_); (case z9hs => assumption); (case z9hv => ksk_a2); (case z9hn => kernel_rfl)) | ((with_reducible refine' Exs.nil ?_)) | ((with_reducible refine' Exs.cons ?z9hp ?_); (case z9hp => exact rfl)) | ((with_reducible refine' Ex.locX ?z9hs ?z9hv ?z9hn ?_); (case z9hs => assumption); (case z9hv => ksk_a2); (case z9hn => kernel_rfl)) | ((with_reducible refine' Ex.callFX ?z9hs ?z9hg ?z9hf ?z9hn ?_); (case z9hs => assumption); (case z9hg => k_is); (case z9hf => k_is); (case z9hn => kernel_rfl)) | ((with_reducible refine' Ex.tup ?z9hz ?_); (case z9hz => exact rfl)) | ((with_reducible refine' Ss.iteR ?_)) | ((with_reducible refine' Ex.callB ?z9hs ?z9hg ?z9hv ?z9hm ?z9hk ?z9hd ?z9hp ?_); (case z9hs => assumption); (case z9hg => k_is); (case z9hv => boot_fast); (case z9hm => decide); (case z9hk => kernel_rfl!); (case z9hd => kernel_rfl); (case z9hp => exact rfl)) | ((with_reducible refine' Ss.asg2 ?z9hs ?z9hx ?z9hy ?z9hw ?z9hn ?_); (case z9hs => assumption); (case z9hx => kernel_rfl!); (case z9hy => kernel_rfl!); (case z9hw => (intro _; exact rfl)); (case z9hn => (intro _; exact rfl))) | ((with_reducible refine' ⟨_, _, _, _, _, _, rfl, ?z9m, ?z9d1, ?z9d2, ?_⟩); (case z9m => ksk_a2); (case z9d1 => first | ((refine' Drp.same ?_); kernel_rfl!) | ((refine' Drp.out ?z9x ?z9y); (case z9x => repeat (first | with_reducible exact Drop.head | with_reducible apply Drop.tail)); (case z9y => kernel_rfl!))); (case z9d2 => first | ((refine' Drp.same ?_); kernel_rfl!) | ((refine' Drp.out ?z9x ?z9y); (case z9x => repeat (first | with_reducible exact Drop.head | with_reducible apply Drop.tail)); (case z9y => kernel_rfl!)))) | ((with_reducible refine' Ex.gloX ?z9hs ?z9e ?z9hn ?_); (case z9hs => assumption); (case z9e => k_is); (case z9hn => kernel_rfl)) | (with_reducible intro a9)))
    all_goals (with_reducible refine Fin.mk (by ki_room) (by ki_room) ?_)
    exact .mk (vs := []) (by ksk_a2) (by ksk_a2) (.nil)
  · cases ap
    have z1 := (ok p1 (by simp)).2
    refine RD.enter (binds := [("left", .ref b)]) (by kas_ty) ?_
    intro G all hw hs hn sub
    (repeat' (first | ((with_reducible refine' Ca.rd ?z9hw ?z9hn ?z9C ?z9sb ?_); (case z9C => first | with_reducible exact SpineC.use Sp sp); (case z9hw => assumption); (case z9hn => first | assumption | exact Nat.le_trans (Nat.le_of_ble_eq_true rfl) (by assumption) | omega); (case z9sb => k_units); intro v9 tl9 sb9 o9; cases o9) | ((with_reducible refine' Ca.rd0 ?z9hw ?z9hn ?z9C ?_); (case z9C => first | with_reducible exact OwnC.use Ow (by assumption)); (case z9hw => assumption); (case z9hn => first | assumption | exact Nat.le_trans (Nat.le_of_ble_eq_true rfl) (by assumption) | omega); intro v9 tl9 o9; cases o9) | ((with_reducible refine' Te.plain ?z9ht ?_); (case z9ht => (intro _ _; exact rfl))) | (with_reducible refine' ⟨_, rfl, ?_⟩) | ((with_reducible refine' Ss.isiN ?z9hs ?z9hv ?z9hn ?z9hg ?z9m1 ?z9m2 ?z9hD ?_); (case z9hs => assumption); (case z9hv => ksk_a2); (case z9hn => kernel_rfl); (case z9hg => k_is); (case z9m1 => ksk_a2); (case z9m2 => ksk_a2); (case z9hD => kernel_rfl!)) | ((with_reducible refine' Te.isiX false ?z9hs ?z9hv ?z9hn ?z9hg ?z9m1 ?z9m2 ?z9hD ?_); (case z9hs => assumption); (case z9hv => ksk_a2); (case z9hn => kernel_rfl); (case z9hg => k_is); (case z9m1 => ksk_a2); (case z9m2 => ksk_a2); (case z9hD => kernel_rfl!)) | ((with_reducible refine' Te.isiX true ?z9hs ?z9hv ?z9hn ?z9hg ?z9m1 ?z9m2 ?z9hD ?_); (case z9hs => assumption); (case z9hv => ksk_a2); (case z9hn => kernel_rfl); (case z9hg => k_is); (case z9m1 => ksk_a2); (case z9m2 => ksk_a2); (case z9hD => kernel_rfl!)) | ((with_reducible refine' Ca.isi ?z9m1 ?z9m2 ?z9hD ?z9hC false ?z9hb ?_); (case z9m1 => ksk_a2); (case z9m2 => ksk_a2); (case z9hD => kernel_rfl!); (case z9hC => kernel_rfl!); (case z9hb => kernel_rfl!)) | ((with_reducible refine' Ca.isi ?z9m1 ?z9m2 ?z9hD ?z9hC true ?z9hb ?_); (case z9m1 => ksk_a2); (case z9m2 => ksk_a2); (case z9hD => kernel_rfl!); (case z9hC => kernel_rfl!); (case z9hb => kernel_rfl!)) | ((with_reducible refine' Ex.attrX ?z9hs ?z9hv ?z9hn ?z9m1 ?z9m2 ?z9hD ?z9hl ?z9hh ?_); (case z9hs => assumption); (case z9hv => ksk_a2); (case z9hn => kernel_rfl); (case z9m1 => ksk_a2); (case z9m2 => ksk_a2); (case z9hD => kernel_rfl!); (case z9hl => k_get); (case z9hh => first | exact rfl | k_handed)) | ((with_reducible refine' Ga.node ?z9m1 ?z9m2 ?z9hD ?z9hx ?z9hl ?z9hv ?_); (case z9m1 => ksk_a2); (case z9m2 => ksk_a2); (case z9hD => kernel_rfl!); (case z9hx => kernel_rfl!); (case z9hl => k_get); (case z9hv => first | exact rfl | k_handed)) | ((with_reducible refine' Ex.compF ?z9hg ?z9hf ?z9hk ?z9hd ?z9hxd ?z9hclos ?z9hcell ?z9hkind ?z9hnames ?z9hx ?z9hfs ?_); (case z9hg => k_is); (case z9hf => k_is); (case z9hk => kernel_rfl!); (case z9hd => kernel_rfl); (case z9hxd => kernel_rfl); (case z9hclos => exact rfl); (case z9hcell => kernel_rfl); (case z9hkind => exact rfl); (case z9hnames => kernel_rfl); (case z9hx => kernel_rfl!); (case z9hfs => (intro _ _; exact rfl)); intro m9) | ((with_reducible refine' ⟨_, _, _, rfl, ?z9m, ?z9hz, ?_⟩); (case z9m => ksk_a2); (case z9hz => exact Nat.le_of_ble_eq_true rfl)) | ((with_reducible refine' MapC.cons (FRd.mk ?z9hw ?z9hn ?z9C ?z9sb ?_)); (case z9hw => assumption); (case z9C => exact PatAll.use Pa (by assumption)); (case z9hn => omega); (case z9sb => k_units); intro r9 tl9 sb9 o9; cases o9; (refine' ⟨?z9m, ?_⟩; (case z9m => ksk_a2))) | ((with_reducible refine' MapC.nil ?_); intro D9) | ((with_reducible refine' Exs.locX ?z9hs ?z9hv ?z9hn ?_); (case z9hs => assumption); (case z9hv => ksk_a2); (case z9hn => kernel_rfl)) | ((with_reducible refine' Exs.nil ?_)) | ((with_reducible refine' Exs.cons ?z9hp ?_); (case z9hp => exact rfl)) | ((with_reducible refine' Ex.locX ?z9hs ?z9hv ?z9hn ?_); (case z9hs => assumption); (case z9hv => ksk_a2); (case z9hn => kernel_rfl)) | ((with_reducible refine' Ex.callFX ?z9hs ?z9hg ?z9hf ?z9hn ?_); (case z9hs => assumption); (case z9hg => k_is); (case z9hf => k_is); (case z9hn => kernel_rfl)) | ((with_reducible refine' Ex.tup ?z9hz ?_); (case z9hz => exact rfl)) | ((with_reducible refine' Ss.iteR ?_)) | ((with_reducible refine' Ex.callB ?z9hs ?z9hg ?z9hv ?z9hm ?z9hk ?z9hd ?z9hp ?_); (case z9hs => assumption); (case z9hg => k_is); (case z9hv => boot_fast); (case z9hm => decide); (case z9hk => kernel_rfl!); (case z9hd => kernel_rfl); (case z9hp => exact rfl)) | ((with_reducible refine' Ss.asg2 ?z9hs ?z9hx ?z9hy ?z9hw ?z9hn ?_); (case z9hs => assumption); (case z9hx => kernel_rfl!); (case z9hy => kernel_rfl!); (case z9hw => (intro _; exact rfl)); (case z9hn => (intro _; exact rfl))) | ((with_reducible refine' ⟨_, _, _, _, _, _, rfl, ?z9m, ?z9d1, ?z9d2, ?_⟩); (case z9m => ksk_a2); (case z9d1 => first | ((refine' Drp.same ?_); kernel_rfl!) | ((refine' Drp.out ?z9x ?z9y); (case z9x => repeat (first | with_reducible exact Drop.head | with_reducible apply Drop.tail)); (case z9y => kernel_rfl!))); (case z9d2 => first | ((refine' Drp.same ?_); kernel_rfl!) | ((refine' Drp.out ?z9x ?z9y); (case z9x => repeat (first | with_reducible exact Drop.head | with_reducible apply Drop.tail)); (case z9y => kernel_rfl!)))) | ((with_reducible refine' Ex.gloX ?z9hs ?z9e ?z9hn ?_); (case z9hs => assumption); (case z9e => k_is); (case z9hn => kernel_rfl)) | (with_reducible intro a9)))
    all_goals (with_reducible refine Fin.mk (by ki_room) (by ki_room) ?_)
    exact .mk (vs := [_]) (by ksk_a2) (by ksk_a2) (.cons (PatIn.mono (by assumption) (by k_units)) .nil)
  · cases ap
    have z1 := (ok p1 (by simp)).2
    have z2 := (ok p2 (by simp)).2
    refine RD.enter (binds := [("left", .ref b)]) (by kas_ty) ?_
    intro G all hw hs hn sub
    (repeat' (first | ((with_reducible refine' Ca.rd ?z9hw ?z9hn ?z9C ?z9sb ?_); (case z9C => first | with_reducible exact SpineC.use Sp sp); (case z9hw => assumption); (case z9hn => first | assumption | exact Nat.le_trans (Nat.le_of_ble_eq_true rfl) (by assumption) | omega); (case z9sb => k_units); intro v9 tl9 sb9 o9; cases o9) | ((with_reducible refine' Ca.rd0 ?z9hw ?z9hn ?z9C ?_); (case z9C => first | with_reducible exact OwnC.use Ow (by assumption)); (case z9hw => assumption); (case z9hn => first | assumption | exact Nat.le_trans (Nat.le_of_ble_eq_true rfl) (by assumption) | omega); intro v9 tl9 o9; cases o9) | ((with_reducible refine' Te.plain ?z9ht ?_); (case z9ht => (intro _ _; exact rfl))) | (with_reducible refine' ⟨_, rfl, ?_⟩) | ((with_reducible refine' Ss.isiN ?z9hs ?z9hv ?z9hn ?z9hg ?z9m1 ?z9m2 ?z9hD ?_); (case z9hs => assumption); (case z9hv => ksk_a2); (case z9hn => kernel_rfl); (case z9hg => k_is); (case z9m1 => ksk_a2); (case z9m2 => ksk_a2); (case z9hD => kernel_rfl!)) | ((with_reducible refine' Te.isiX false ?z9hs ?z9hv ?z9hn ?z9hg ?z9m1 ?z9m2 ?z9hD ?_); (case z9hs => assumption); (case z9hv => ksk_a2); (case z9hn => kernel_rfl); (case z9hg => k_is); (case z9m1 => ksk_a2); (case z9m2 => ksk_a2); (case z9hD => kernel_rfl!)) | ((with_reducible refine' Te.isiX true ?z9hs ?z9hv ?z9hn ?z9hg ?z9m1 ?z9m2 ?z9hD ?_); (case z9hs => assumption); (case z9hv => ksk_a2); (case z9hn => kernel_rfl); (case z9hg => k_is); (case z9m1 => ksk_a2); (case z9m2 => ksk_a2); (case z9hD => kernel_rfl!)) | ((with_reducible refine' Ca.isi ?z9m1 ?z9m2 ?z9hD ?z9hC false ?z9hb ?_); (case z9m1 => ksk_a2); (case z9m2 => ksk_a2); (case z9hD => kernel_rfl!); (case z9hC => kernel_rfl!); (case z9hb => kernel_rfl!)) | ((with_reducible refine' Ca.isi ?z9m1 ?z9m2 ?z9hD ?z9hC true ?z9hb ?_); (case z9m1 => ksk_a2); (case z9m2 => ksk_a2); (case z9hD => kernel_rfl!); (case z9hC => kernel_rfl!); (case z9hb => kernel_rfl!)) | ((with_reducible refine' Ex.attrX ?z9hs ?z9hv ?z9hn ?z9m1 ?z9m2 ?z9hD ?z9hl ?z9hh ?_); (case z9hs => assumption); (case z9hv => ksk_a2); (case z9hn => kernel_rfl); (case z9m1 => ksk_a2); (case z9m2 => ksk_a2); (case z9hD => kernel_rfl!); (case z9hl => k_get); (case z9hh => first | exact rfl | k_handed)) | ((with_reducible refine' Ga.node ?z9m1 ?z9m2 ?z9hD ?z9hx ?z9hl ?z9hv ?_); (case z9m1 => ksk_a2); (case z9m2 => ksk_a2); (case z9hD => kernel_rfl!); (case z9hx => kernel_rfl!); (case z9hl => k_get); (case z9hv => first | exact rfl | k_handed)) | ((with_reducible refine' Ex.compF ?z9hg ?z9hf ?z9hk ?z9hd ?z9hxd ?z9hclos ?z9hcell ?z9hkind ?z9hnames ?z9hx ?z9hfs ?_); (case z9hg => k_is); (case z9hf => k_is); (case z9hk => kernel_rfl!); (case z9hd => kernel_rfl); (case z9hxd => kernel_rfl); (case z9hclos => exact rfl); (case z9hcell => kernel_rfl); (case z9hkind => exact rfl); (case z9hnames => kernel_rfl); (case z9hx => kernel_rfl!); (case z9hfs => (intro _ _; exact rfl)); intro m9) | ((with_reducible refine' ⟨_, _, _, rfl, ?z9m, ?z9hz, ?_⟩); (case z9m => ksk_a2); (case z9hz => exact Nat.le_of_ble_eq_true rfl)) | ((with_reducible refine' MapC.cons (FRd.mk ?z9hw ?z9hn ?z9C ?z9sb ?_)); (case z9hw => assumption); (case z9C => exact PatAll.use Pa (by assumption)); (case z9hn => omega); (case z9sb => k_units); intro r9 tl9 sb9 o9; cases o9; (refine' ⟨?z9m, ?_⟩; (case z9m => ksk_a2))) | ((with_reducible refine' MapC.nil ?_); intro D9) | ((with_reducible refine' Exs.locX ?z9hs ?z9hv ?z9hn ?_); (case z9hs => assumption); (case z9hv => ksk_a2); (case z9hn => kernel_rfl)) | ((with_reducible refine' Exs.nil ?_)) | ((with_reducible refine' Exs.cons ?z9hp ?_); (case z9hp => exact rfl)) | ((with_reducible refine' Ex.locX ?z9hs ?z9hv ?z9hn ?_); (case z9hs => assumption); (case z9hv => ksk_a2); (case z9hn => kernel_rfl)) | ((with_reducible refine' Ex.callFX ?z9hs ?z9hg ?z9hf ?z9hn ?_); (case z9hs => assumption); (case z9hg => k_is); (case z9hf => k_is); (case z9hn => kernel_rfl)) | ((with_reducible refine' Ex.tup ?z9hz ?_); (case z9hz => exact rfl)) | ((with_reducible refine' Ss.iteR ?_)) | ((with_reducible refine' Ex.callB ?z9hs ?z9hg ?z9hv ?z9hm ?z9hk ?z9hd ?z9hp ?_); (case z9hs => assumption); (case z9hg => k_is); (case z9hv => boot_fast); (case z9hm => decide); (case z9hk => kernel_rfl!); (case z9hd => kernel_rfl); (case z9hp => exact rfl)) | ((with_reducible refine' Ss.asg2 ?z9hs ?z9hx ?z9hy ?z9hw ?z9hn ?_); (case z9hs => assumption); (case z9hx => kernel_rfl!); (case z9hy => kernel_rfl!); (case z9hw => (intro _; exact rfl)); (case z9hn => (intro _; exact rfl))) | ((with_reducible refine' ⟨_, _, _, _, _, _, rfl, ?z9m, ?z9d1, ?z9d2, ?_⟩); (case z9m => ksk_a2); (case z9d1 => first | ((refine' Drp.same ?_); kernel_rfl!) | ((refine' Drp.out ?z9x ?z9y); (case z9x => repeat (first | with_reducible exact Drop.head | with_reducible apply Drop.tail)); (case z9y => kernel_rfl!))); (case z9d2 => first | ((refine' Drp.same ?_); kernel_rfl!) | ((refine' Drp.out ?z9x ?z9y); (case z9x => repeat (first | with_reducible exact Drop.head | with_reducible apply Drop.tail)); (case z9y => kernel_rfl!)))) | ((with_reducible refine' Ex.gloX ?z9hs ?z9e ?z9hn ?_); (case z9hs => assumption); (case z9e => k_is); (case z9hn => kernel_rfl)) | (with_reducible intro a9)))
    all_goals (with_reducible refine Fin.mk (by ki_room) (by ki_room) ?_)
    exact .mk (vs := [_, _]) (by ksk_a2) (by ksk_a2) (.cons (PatIn.mono (by assumption) (by k_units)) (.cons (PatIn.mono (by assumption) (by k_units)) .nil))
  · cases ap
    have z1 := (ok p1 (by simp)).2
    have z2 := (ok p2 (by simp)).2
    have z3 := (ok p3 (by simp)).2
    refine RD.enter (binds := [("left", .ref b)]) (by kas_ty) ?_
    intro G all hw hs hn sub
    (repeat' (first | ((with_reducible refine' Ca.rd ?z9hw ?z9hn ?z9C ?z9sb ?_); (case z9C => first | with_reducible exact SpineC.use Sp sp); (case z9hw => assumption); (case z9hn => first | assumption | exact Nat.le_trans (Nat.le_of_ble_eq_true rfl) (by assumption) | omega); (case z9sb => k_units); intro v9 tl9 sb9 o9; cases o9) | ((with_reducible refine' Ca.rd0 ?z9hw ?z9hn ?z9C ?_); (case z9C => first | with_reducible exact OwnC.use Ow (by assumption)); (case z9hw => assumption); (case z9hn => first | assumption | exact Nat.le_trans (Nat.le_of_ble_eq_true rfl) (by assumption) | omega); intro v9 tl9 o9; cases o9) | ((with_reducible refine' Te.plain ?z9ht ?_); (case z9ht => (intro _ _; exact rfl))) | (with_reducible refine' ⟨_, rfl, ?_⟩) | ((with_reducible refine' Ss.isiN ?z9hs ?z9hv ?z9hn ?z9hg ?z9m1 ?z9m2 ?z9hD ?_); (case z9hs => assumption); (case z9hv => ksk_a2); (case z9hn => kernel_rfl); (case z9hg => k_is); (case z9m1 => ksk_a2); (case z9m2 => ksk_a2); (case z9hD => kernel_rfl!)) | ((with_reducible refine' Te.isiX false ?z9hs ?z9hv ?z9hn ?z9hg ?z9m1 ?z9m2 ?z9hD ?_); (case z9hs => assumption); (case z9hv => ksk_a2); (case z9hn => kernel_rfl); (case z9hg => k_is); (case z9m1 => ksk_a2); (case z9m2 => ksk_a2); (case z9hD => kernel_rfl!)) | ((with_reducible refine' Te.isiX true ?z9hs ?z9hv ?z9hn ?z9hg ?z9m1 ?z9m2 ?z9hD ?_); (case z9hs => assumption); (case z9hv => ksk_a2); (case z9hn => kernel_rfl); (case z9hg => k_is); (case z9m1 => ksk_a2); (case z9m2 => ksk_a2); (case z9hD => kernel_rfl!)) | ((with_reducible refine' Ca.isi ?z9m1 ?z9m2 ?z9hD ?z9hC false ?z9hb ?_); (case z9m1 => ksk_a2); (case z9m2 => ksk_a2); (case z9hD => kernel_rfl!); (case z9hC => kernel_rfl!); (case z9hb => kernel_rfl!)) | ((with_reducible refine' Ca.isi ?z9m1 ?z9m2 ?z9hD ?z9hC true ?z9hb ?_); (case z9m1 => ksk_a2); (case z9m2 => ksk_a2); (case z9hD => kernel_rfl!); (case z9hC => kernel_rfl!); (case z9hb => kernel_rfl!)) | ((with_reducible refine' Ex.attrX ?z9hs ?z9hv ?z9hn ?z9m1 ?z9m2 ?z9hD ?z9hl ?z9hh ?_); (case z9hs => assumption); (case z9hv => ksk_a2); (case z9hn => kernel_rfl); (case z9m1 => ksk_a2); (case z9m2 => ksk_a2); (case z9hD => kernel_rfl!); (case z9hl => k_get); (case z9hh => first | exact rfl | k_handed)) | ((with_reducible refine' Ga.node ?z9m1 ?z9m2 ?z9hD ?z9hx ?z9hl ?z9hv ?_); (case z9m1 => ksk_a2); (case z9m2 => ksk_a2); (case z9hD => kernel_rfl!); (case z9hx => kernel_rfl!); (case z9hl => k_get); (case z9hv => first | exact rfl | k_handed)) | ((with_reducible refine' Ex.compF ?z9hg ?z9hf ?z9hk ?z9hd ?z9hxd ?z9hclos ?z9hcell ?z9hkind ?z9hnames ?z9hx ?z9hfs ?_); (case z9hg => k_is); (case z9hf => k_is); (case z9hk => kernel_rfl!); (case z9hd => kernel_rfl); (case z9hxd => kernel_rfl); (case z9hclos => exact rfl); (case z9hcell => kernel_rfl); (case z9hkind => exact rfl); (case z9hnames => kernel_rfl); (case z9hx => kernel_rfl!); (case z9hfs => (intro _ _; exact rfl)); intro m9) | ((with_reducible refine' ⟨_, _, _, rfl, ?z9m, ?z9hz, ?_⟩); (case z9m => ksk_a2); (case z9hz => exact Nat.le_of_ble_eq_true rfl)) | ((with_reducible refine' MapC.cons (FRd.mk ?z9hw ?z9hn ?z9C ?z9sb ?_)); (case z9hw => assumption); (case z9C => exact PatAll.use Pa (by assumption)); (case z9hn => omega); (case z9sb => k_units); intro r9 tl9 sb9 o9; cases o9; (refine' ⟨?z9m, ?_⟩; (case z9m => ksk_a2))) | ((with_reducible refine' MapC.nil ?_); intro D9) | ((with_reducible refine' Exs.locX ?z9hs ?z9hv ?z9hn ?_); (case z9hs => assumption); (case z9hv => ksk_a2); (case z9hn => kernel_rfl)) | ((with_reducible refine' Exs.nil ?_)) | ((with_reducible refine' Exs.cons ?z9hp ?_); (case z9hp => exact rfl)) | ((with_reducible refine' Ex.locX ?z9hs ?z9hv ?z9hn ?_); (case z9hs => assumption); (case z9hv => ksk_a2); (case z9hn => kernel_rfl)) | ((with_reducible refine' Ex.callFX ?z9hs ?z9hg ?z9hf ?z9hn ?_); (case z9hs => assumption); (case z9hg => k_is); (case z9hf => k_is); (case z9hn => kernel_rfl)) | ((with_reducible refine' Ex.tup ?z9hz ?_); (case z9hz => exact rfl)) | ((with_reducible refine' Ss.iteR ?_)) | ((with_reducible refine' Ex.callB ?z9hs ?z9hg ?z9hv ?z9hm ?z9hk ?z9hd ?z9hp ?_); (case z9hs => assumption); (case z9hg => k_is); (case z9hv => boot_fast); (case z9hm => decide); (case z9hk => kernel_rfl!); (case z9hd => kernel_rfl); (case z9hp => exact rfl)) | ((with_reducible refine' Ss.asg2 ?z9hs ?z9hx ?z9hy ?z9hw ?z9hn ?_); (case z9hs => assumption); (case z9hx => kernel_rfl!); (case z9hy => kernel_rfl!); (case z9hw => (intro _; exact rfl)); (case z9hn => (intro _; exact rfl))) | ((with_reducible refine' ⟨_, _, _, _, _, _, rfl, ?z9m, ?z9d1, ?z9d2, ?_⟩); (case z9m => ksk_a2); (case z9d1 => first | ((refine' Drp.same ?_); kernel_rfl!) | ((refine' Drp.out ?z9x ?z9y); (case z9x => repeat (first | with_reducible exact Drop.head | with_reducible apply Drop.tail)); (case z9y => kernel_rfl!))); (case z9d2 => first | ((refine' Drp.same ?_); kernel_rfl!) | ((refine' Drp.out ?z9x ?z9y); (case z9x => repeat (first | with_reducible exact Drop.head | with_reducible apply Drop.tail)); (case z9y => kernel_rfl!)))) | ((with_reducible refine' Ex.gloX ?z9hs ?z9e ?z9hn ?_); (case z9hs => assumption); (case z9e => k_is); (case z9hn => kernel_rfl)) | (with_reducible intro a9)))
    all_goals (with_reducible refine Fin.mk (by ki_room) (by ki_room) ?_)
    exact .mk (vs := [_, _, _]) (by ksk_a2) (by ksk_a2) (.cons (PatIn.mono (by assumption) (by k_units)) (.cons (PatIn.mono (by assumption) (by k_units)) (.cons (PatIn.mono (by assumption) (by k_units)) .nil)))
theorem fbase_fn {w : World} (Oh : OperHC w) (Nm : ∀ {led : Led} {a : Addr} {x : Str} {ps : List PE}, NamedIn led a x ps → x ∈ goodNames → OkAll ps → RD w 70 845 [.ref a] led (O_fn x ps)) : ∀ {led : Led} {a : Addr} {x : Str} {ps : List PE}, BaseIn led a (.fn x ps) → OkAll ps → RD w 70 845 [.ref a] led (O_fn x ps) := by
  intro led b x ps bi ok
  obtain ⟨hx, nm | ⟨p1, p2, rfl, op⟩⟩ := bi.cases
  · exact Nm nm hx ok
  clear bi
  have op2 := op
  cases op2
  refine RD.enter (binds := [("left", .ref b)]) (by kas_ty) ?_
  intro G all hw hs hn sub
  (repeat' (first | ((with_reducible refine' Ca.rd ?z9hw ?z9hn ?z9C ?z9sb ?_); (case z9C => first | with_reducible exact OperHC.ok Oh op hx); (case z9hw => assumption); (case z9hn => first | assumption | exact Nat.le_trans (Nat.le_of_ble_eq_true rfl) (by assumption) | omega); (case z9sb => k_units); intro v9 tl9 sb9 o9; cases o9) | ((with_reducible refine' Te.plain ?z9ht ?_); (case z9ht => (intro _ _; exact rfl))) | (with_reducible refine' ⟨_, rfl, ?_⟩) | ((with_reducible refine' Ss.isiN ?z9hs ?z9hv ?z9hn ?z9hg ?z9m1 ?z9m2 ?z9hD ?_); (case z9hs => assumption); (case z9hv => ksk_a2); (case z9hn => kernel_rfl); (case z9hg => k_is); (case z9m1 => ksk_a2); (case z9m2 => ksk_a2); (case z9hD => kernel_rfl!)) | ((with_reducible refine' Te.isiX false ?z9hs ?z9hv ?z9hn ?z9hg ?z9m1 ?z9m2 ?z9hD ?_); (case z9hs => assumption); (case z9hv => ksk_a2); (case z9hn => kernel_rfl); (case z9hg => k_is); (case z9m1 => ksk_a2); (case z9m2 => ksk_a2); (case z9hD => kernel_rfl!)) | ((with_reducible refine' Te.isiX true ?z9hs ?z9hv ?z9hn ?z9hg ?z9m1 ?z9m2 ?z9hD ?_); (case z9hs => assumption); (case z9hv => ksk_a2); (case z9hn => kernel_rfl); (case z9hg => k_is); (case z9m1 => ksk_a2); (case z9m2 => ksk_a2); (case z9hD => kernel_rfl!)) | ((with_reducible refine' Ca.isi ?z9m1 ?z9m2 ?z9hD ?z9hC false ?z9hb ?_); (case z9m1 => ksk_a2); (case z9m2 => ksk_a2); (case z9hD => kernel_rfl!); (case z9hC => kernel_rfl!); (case z9hb => kernel_rfl!)) | ((with_reducible refine' Ca.isi ?z9m1 ?z9m2 ?z9hD ?z9hC true ?z9hb ?_); (case z9m1 => ksk_a2); (case z9m2 => ksk_a2); (case z9hD => kernel_rfl!); (case z9hC => kernel_rfl!); (case z9hb => kernel_rfl!)) | ((with_reducible refine' Exs.locX ?z9hs ?z9hv ?z9hn ?_); (case z9hs => assumption); (case z9hv => ksk_a2); (case z9hn => kernel_rfl)) | ((with_reducible refine' Exs.nil ?_)) | ((with_reducible refine' Exs.cons ?z9hp ?_); (case z9hp => exact rfl)) | ((with_reducible refine' Ex.callFX ?z9hs ?z9hg ?z9hf ?z9hn ?_); (case z9hs => assumption); (case z9hg => k_is); (case z9hf => k_is); (case z9hn => kernel_rfl)) | ((with_reducible refine' Ss.iteR ?_)) | ((with_reducible refine' Ex.callB ?z9hs ?z9hg ?z9hv ?z9hm ?z9hk ?z9hd ?z9hp ?_); (case z9hs => assumption); (case z9hg => k_is); (case z9hv => boot_fast); (case z9hm => decide); (case z9hk => kernel_rfl!); (case z9hd => kernel_rfl); (case z9hp => exact rfl)) | ((with_reducible refine' Ex.gloX ?z9hs ?z9e ?z9hn ?_); (case z9hs => assumption); (case z9e => k_is); (case z9hn => kernel_rfl))))
  all_goals (with_reducible refine Fin.mk (by ki_room) (by ki_room) ?_)
  exact .mk (by ksk_a2) (by ksk_a2) (by (refine PatAllIn.mono (by assumption) ?s9; (case s9 => k_units)))
theorem fbase_bad {w : World} (Oh : OperHC w) (Sp : SpineC w) (Ow : OwnE w) : ∀ {led : Led} {a : Addr}, BaseIn led a .bad → RE w 70 845 [.ref a] led := by
  intro led b bi
  rcases bi.casesBad with ⟨x, ps, nm, hx⟩ | ⟨x, p1, p2, op⟩ | ⟨x, p1, p2, op, hx⟩
  · obtain ⟨f, vs, sp, v, hd9⟩ := nm.head
    cases v
    rcases hd9 with v | ap
    · cases v
      refine RE.enter (binds := [("left", .ref b)]) (by kas_ty) ?_
      intro G all all0 hw hs hn hS hx9 s0 sub
      (repeat' (first | ((with_reducible refine' Ca.rd ?z9hw ?z9hn ?z9C ?z9sb ?_); (case z9C => first | with_reducible exact SpineC.use Sp sp); (case z9hw => assumption); (case z9hn => first | assumption | exact Nat.le_trans (Nat.le_of_ble_eq_true rfl) (by assumption) | omega); (case z9sb => k_units); intro v9 tl9 sb9 o9; cases o9) | ((with_reducible refine' Ca.re ?z9hw ?z9hn ?z9hS ?z9hx ?z9C ?z9s0 ?z9sb); (case z9C => first | with_reducible exact OwnE.use Ow (by assumption)); (case z9hw => assumption); (case z9hn => first | assumption | exact Nat.le_trans (Nat.le_of_ble_eq_true rfl) (by assumption) | omega); (case z9hS => assumption); (case z9hx => assumption); (case z9s0 => k_units); (case z9sb => k_units)) | ((with_reducible refine' Ca.re ?z9hw ?z9hn ?z9hS ?z9hx ?z9C ?z9s0 ?z9sb); (case z9C => first | with_reducible exact OperHC.two Oh op | with_reducible exact OperHC.bad Oh op hx); (case z9hw => assumption); (case z9hn => first | assumption | exact Nat.le_trans (Nat.le_of_ble_eq_true rfl) (by assumption) | omega); (case z9hS => assumption); (case z9hx => assumption); (case z9s0 => k_units); (case z9sb => k_units)) | ((with_reducible refine' Te.plain ?z9ht ?_); (case z9ht => (intro _ _; exact rfl))) | (with_reducible refine' ⟨_, rfl, ?_⟩) | ((with_reducible refine' Ss.isiN ?z9hs ?z9hv ?z9hn ?z9hg ?z9m1 ?z9m2 ?z9hD ?_); (case z9hs => assumption); (case z9hv => ksk_a2); (case z9hn => kernel_rfl); (case z9hg => k_is); (case z9m1 => ksk_a2); (case z9m2 => ksk_a2); (case z9hD => kernel_rfl!)) | ((with_reducible refine' Te.isiX false ?z9hs ?z9hv ?z9hn ?z9hg ?z9m1 ?z9m2 ?z9hD ?_); (case z9hs => assumption); (case z9hv => ksk_a2); (case z9hn => kernel_rfl); (case z9hg => k_is); (case z9m1 => ksk_a2); (case z9m2 => ksk_a2); (case z9hD => kernel_rfl!)) | ((with_reducible refine' Te.isiX true ?z9hs ?z9hv ?z9hn ?z9hg ?z9m1 ?z9m2 ?z9hD ?_); (case z9hs => assumption); (case z9hv => ksk_a2); (case z9hn => kernel_rfl); (case z9hg => k_is); (case z9m1 => ksk_a2); (case z9m2 => ksk_a2); (case z9hD => kernel_rfl!)) | ((with_reducible refine' Ca.isi ?z9m1 ?z9m2 ?z9hD ?z9hC false ?z9hb ?_); (case z9m1 => ksk_a2); (case z9m2 => ksk_a2); (case z9hD => kernel_rfl!); (case z9hC => kernel_rfl!); (case z9hb => kernel_rfl!)) | ((with_reducible refine' Ca.isi ?z9m1 ?z9m2 ?z9hD ?z9hC true ?z9hb ?_); (case z9m1 => ksk_a2); (case z9m2 => ksk_a2); (case z9hD => kernel_rfl!); (case z9hC => kernel_rfl!); (case z9hb => kernel_rfl!)) | ((with_reducible refine' Ex.attrX ?z9hs ?z9hv ?z9hn ?z9m1 ?z9m2 ?z9hD ?z9hl ?z9hh ?_); (case z9hs => assumption); (case z9hv => ksk_a2); (case z9hn => kernel_rfl); (case z9m1 => ksk_a2); (case z9m2 => ksk_a2); (case z9hD => kernel_rfl!); (case z9hl => k_get); (case z9hh => first | exact rfl | k_handed)) | ((with_reducible refine' Ga.node ?z9m1 ?z9m2 ?z9hD ?z9hx ?z9hl ?z9hv ?_); (case z9m1 => ksk_a2); (case z9m2 => ksk_a2); (case z9hD => kernel_rfl!); (case z9hx => kernel_rfl!); (case z9hl => k_get); (case z9hv => first | exact rfl | k_handed)) | ((with_reducible refine' Exs.locX ?z9hs ?z9hv ?z9hn ?_); (case z9hs => assumption); (case z9hv => ksk_a2); (case z9hn => kernel_rfl)) | ((with_reducible refine' Exs.nil ?_)) | ((with_reducible refine' Exs.cons ?z9hp ?_); (case z9hp => exact rfl)) | ((with_reducible refine' Ex.callFX ?z9hs ?z9hg ?z9hf ?z9hn ?_); (case z9hs => assumption); (case z9hg => k_is); (case z9hf => k_is); (case z9hn => kernel_rfl)) | ((with_reducible refine' Ex.tup ?z9hz ?_); (case z9hz => exact rfl)) | ((with_reducible refine' Ss.iteR ?_)) | ((with_reducible refine' Ex.callB ?z9hs ?z9hg ?z9hv ?z9hm ?z9hk ?z9hd ?z9hp ?_); (case z9hs => assumption); (case z9hg => k_is); (case z9hv => boot_fast); (case z9hm => decide); (case z9hk => kernel_rfl!); (case z9hd => kernel_rfl); (case z9hp => exact rfl)) | ((with_reducible refine' Ss.asg2 ?z9hs ?z9hx ?z9hy ?z9hw ?z9hn ?_); (case z9hs => assumption); (case z9hx => kernel_rfl!); (case z9hy => kernel_rfl!); (case z9hw => (intro _; exact rfl)); (case z9hn => (intro _; exact rfl))) | ((with_reducible refine' ⟨_, _, _, _, _, _, rfl, ?z9m, ?z9d1, ?z9d2, ?_⟩); (case z9m => ksk_a2); (case z9d1 => first | ((refine' Drp.same ?_); kernel_rfl!) | ((refine' Drp.out ?z9x ?z9y); (case z9x => repeat (first | with_reducible exact Drop.head | with_reducible apply Drop.tail)); (case z9y => kernel_rfl!))); (case z9d2 => first | ((refine' Drp.same ?_); kernel_rfl!) | ((refine' Drp.out ?z9x ?z9y); (case z9x => repeat (first | with_reducible exact Drop.head | with_reducible apply Drop.tail)); (case z9y => kernel_rfl!)))) | ((with_reducible refine' Ex.gloX ?z9hs ?z9e ?z9hn ?_); (case z9hs => assumption); (case z9e => k_is); (case z9hn => kernel_rfl))))
    · cases ap
      refine RE.enter (binds := [("left", .ref b)]) (by kas_ty) ?_
      intro G all all0 hw hs hn hS hx9 s0 sub
      (repeat' (first | ((with_reducible refine' Ca.rd ?z9hw ?z9hn ?z9C ?z9sb ?_); (case z9C => first | with_reducible exact SpineC.use Sp sp); (case z9hw => assumption); (case z9hn => first | assumption | exact Nat.le_trans (Nat.le_of_ble_eq_true rfl) (by assumption) | omega); (case z9sb => k_units); intro v9 tl9 sb9 o9; cases o9) | ((with_reducible refine' Ca.re ?z9hw ?z9hn ?z9hS ?z9hx ?z9C ?z9s0 ?z9sb); (case z9C => first | with_reducible exact OwnE.use Ow (by assumption)); (case z9hw => assumption); (case z9hn => first | assumption | exact Nat.le_trans (Nat.le_of_ble_eq_true rfl) (by assumption) | omega); (case z9hS => assumption); (case z9hx => assumption); (case z9s0 => k_units); (case z9sb => k_units)) | ((with_reducible refine' Ca.re ?z9hw ?z9hn ?z9hS ?z9hx ?z9C ?z9s0 ?z9sb); (case z9C => first | with_reducible exact OperHC.two Oh op | with_reducible exact OperHC.bad Oh op hx); (case z9hw => assumption); (case z9hn => first | assumption | exact Nat.le_trans (Nat.le_of_ble_eq_true rfl) (by assumption) | omega); (case z9hS => assumption); (case z9hx => assumption); (case z9s0 => k_units); (case z9sb => k_units)) | ((with_reducible refine' Te.plain ?z9ht ?_); (case z9ht => (intro _ _; exact rfl))) | (with_reducible refine' ⟨_, rfl, ?_⟩) | ((with_reducible refine' Ss.isiN ?z9hs ?z9hv ?z9hn ?z9hg ?z9m1 ?z9m2 ?z9hD ?_); (case z9hs => assumption); (case z9hv => ksk_a2); (case z9hn => kernel_rfl); (case z9hg => k_is); (case z9m1 => ksk_a2); (case z9m2 => ksk_a2); (case z9hD => kernel_rfl!)) | ((with_reducible refine' Te.isiX false ?z9hs ?z9hv ?z9hn ?z9hg ?z9m1 ?z9m2 ?z9hD ?_); (case z9hs => assumption); (case z9hv => ksk_a2); (case z9hn => kernel_rfl); (case z9hg => k_is); (case z9m1 => ksk_a2); (case z9m2 => ksk_a2); (case z9hD => kernel_rfl!)) | ((with_reducible refine' Te.isiX true ?z9hs ?z9hv ?z9hn ?z9hg ?z9m1 ?z9m2 ?z9hD ?_); (case z9hs => assumption); (case z9hv => ksk_a2); (case z9hn => kernel_rfl); (case z9hg => k_is); (case z9m1 => ksk_a2); (case z9m2 => ksk_a2); (case z9hD => kernel_rfl!)) | ((with_reducible refine' Ca.isi ?z9m1 ?z9m2 ?z9hD ?z9hC false ?z9hb ?_); (case z9m1 => ksk_a2); (case z9m2 => ksk_a2); (case z9hD => kernel_rfl!); (case z9hC => kernel_rfl!); (case z9hb => kernel_rfl!)) | ((with_reducible refine' Ca.isi ?z9m1 ?z9m2 ?z9hD ?z9hC true ?z9hb ?_); (case z9m1 => ksk_a2); (case z9m2 => ksk_a2); (case z9hD => kernel_rfl!); (case z9hC => kernel_rfl!); (case z9hb => kernel_rfl!)) | ((with_reducible refine' Ex.attrX ?z9hs ?z9hv ?z9hn ?z9m1 ?z9m2 ?z9hD ?z9hl ?z9hh ?_); (case z9hs => assumption); (case z9hv => ksk_a2); (case z9hn => kernel_rfl); (case z9m1 => ksk_a2); (case z9m2 => ksk_a2); (case z9hD => kernel_rfl!); (case z9hl => k_get); (case z9hh => first | exact rfl | k_handed)) | ((with_reducible refine' Ga.node ?z9m1 ?z9m2 ?z9hD ?z9hx ?z9hl ?z9hv ?_); (case z9m1 => ksk_a2); (case z9m2 => ksk_a2); (case z9hD => kernel_rfl!); (case z9hx => kernel_rfl!); (case z9hl => k_get); (case z9hv => first | exact rfl | k_handed)) | ((with_reducible refine' Exs.locX ?z9hs ?z9hv ?z9hn ?_); (case z9hs => assumption); (case z9hv => ksk_a2); (case z9hn => kernel_rfl)) | ((with_reducible refine' Exs.nil ?_)) | ((with_reducible refine' Exs.cons ?z9hp ?_); (case z9hp => exact rfl)) | ((with_reducible refine' Ex.callFX ?z9hs ?z9hg ?z9hf ?z9hn ?_); (case z9hs => assumption); (case z9hg => k_is); (case z9hf => k_is); (case z9hn => kernel_rfl)) | ((with_reducible refine' Ex.tup ?z9hz ?_); (case z9hz => exact rfl)) | ((with_reducible refine' Ss.iteR ?_)) | ((with_reducible refine' Ex.callB ?z9hs ?z9hg ?z9hv ?z9hm ?z9hk ?z9hd ?z9hp ?_); (case z9hs => assumption); (case z9hg => k_is); (case z9hv => boot_fast); (case z9hm => decide); (case z9hk => kernel_rfl!); (case z9hd => kernel_rfl); (case z9hp => exact rfl)) | ((with_reducible refine' Ss.asg2 ?z9hs ?z9hx ?z9hy ?z9hw ?z9hn ?_); (case z9hs => assumption); (case z9hx => kernel_rfl!); (case z9hy => kernel_rfl!); (case z9hw => (intro _; exact rfl)); (case z9hn => (intro _; exact rfl))) | ((with_reducible refine' ⟨_, _, _, _, _, _, rfl, ?z9m, ?z9d1, ?z9d2, ?_⟩); (case z9m => ksk_a2); (case z9d1 => first | ((refine' Drp.same ?_); kernel_rfl!) | ((refine' Drp.out ?z9x ?z9y); (case z9x => repeat (first | with_reducible exact Drop.head | with_reducible apply Drop.tail)); (case z9y => kernel_rfl!))); (case z9d2 => first | ((refine' Drp.same ?_); kernel_rfl!) | ((refine' Drp.out ?z9x ?z9y); (case z9x => repeat (first | with_reducible exact Drop.head | with_reducible apply Drop.tail)); (case z9y => kernel_rfl!)))) | ((with_reducible refine' Ex.gloX ?z9hs ?z9e ?z9hn ?_); (case z9hs => assumption); (case z9e => k_is); (case z9hn => kernel_rfl))))
  · have op2 := op
    cases op2
    refine RE.enter (binds := [("left", .ref b)]) (by kas_ty) ?_
    intro G all all0 hw hs hn hS hx9 s0 sub
    (repeat' (first | ((with_reducible refine' Ca.rd ?z9hw ?z9hn ?z9C ?z9sb ?_); (case z9C => first | with_reducible exact SpineC.use Sp sp); (case z9hw => assumption); (case z9hn => first | assumption | exact Nat.le_trans (Nat.le_of_ble_eq_true rfl) (by assumption) | omega); (case z9sb => k_units); intro v9 tl9 sb9 o9; cases o9) | ((with_reducible refine' Ca.re ?z9hw ?z9hn ?z9hS ?z9hx ?z9C ?z9s0 ?z9sb); (case z9C => first | with_reducible exact OwnE.use Ow (by assumption)); (case z9hw => assumption); (case z9hn => first | assumption | exact Nat.le_trans (Nat.le_of_ble_eq_true rfl) (by assumption) | omega); (case z9hS => assumption); (case z9hx => assumption); (case z9s0 => k_units); (case z9sb => k_units)) | ((with_reducible refine' Ca.re ?z9hw ?z9hn ?z9hS ?z9hx ?z9C ?z9s0 ?z9sb); (case z9C => first | with_reducible exact OperHC.two Oh op | with_reducible exact OperHC.bad Oh op hx); (case z9hw => assumption); (case z9hn => first | assumption | exact Nat.le_trans (Nat.le_of_ble_eq_true rfl) (by assumption) | omega); (case z9hS => assumption); (case z9hx => assumption); (case z9s0 => k_units); (case z9sb => k_units)) | ((with_reducible refine' Te.plain ?z9ht ?_); (case z9ht => (intro _ _; exact rfl))) | (with_reducible refine' ⟨_, rfl, ?_⟩) | ((with_reducible refine' Ss.isiN ?z9hs ?z9hv ?z9hn ?z9hg ?z9m1 ?z9m2 ?z9hD ?_); (case z9hs => assumption); (case z9hv => ksk_a2); (case z9hn => kernel_rfl); (case z9hg => k_is); (case z9m1 => ksk_a2); (case z9m2 => ksk_a2); (case z9hD => kernel_rfl!)) | ((with_reducible refine' Te.isiX false ?z9hs ?z9hv ?z9hn ?z9hg ?z9m1 ?z9m2 ?z9hD ?_); (case z9hs => assumption); (case z9hv => ksk_a2); (case z9hn => kernel_rfl); (case z9hg => k_is); (case z9m1 => ksk_a2); (case z9m2 => ksk_a2); (case z9hD => kernel_rfl!)) | ((with_reducible refine' Te.isiX true ?z9hs ?z9hv ?z9hn ?z9hg ?z9m1 ?z9m2 ?z9hD ?_); (case z9hs => assumption); (case z9hv => ksk_a2); (case z9hn => kernel_rfl); (case z9hg => k_is); (case z9m1 => ksk_a2); (case z9m2 => ksk_a2); (case z9hD => kernel_rfl!)) | ((with_reducible refine' Ca.isi ?z9m1 ?z9m2 ?z9hD ?z9hC false ?z9hb ?_); (case z9m1 => ksk_a2); (case z9m2 => ksk_a2); (case z9hD => kernel_rfl!); (case z9hC => kernel_rfl!); (case z9hb => kernel_rfl!)) | ((with_reducible refine' Ca.isi ?z9m1 ?z9m2 ?z9hD ?z9hC true ?z9hb ?_); (case z9m1 => ksk_a2); (case z9m2 => ksk_a2); (case z9hD => kernel_rfl!); (case z9hC => kernel_rfl!); (case z9hb => kernel_rfl!)) | ((with_reducible refine' Ex.attrX ?z9hs ?z9hv ?z9hn ?z9m1 ?z9m2 ?z9hD ?z9hl ?z9hh ?_); (case z9hs => assumption); (case z9hv => ksk_a2); (case z9hn => kernel_rfl); (case z9m1 => ksk_a2); (case z9m2 => ksk_a2); (case z9hD => kernel_rfl!); (case z9hl => k_get); (case z9hh => first | exact rfl | k_handed)) | ((with_reducible refine' Ga.node ?z9m1 ?z9m2 ?z9hD ?z9hx ?z9hl ?z9hv ?_); (case z9m1 => ksk_a2); (case z9m2 => ksk_a2); (case z9hD => kernel_rfl!); (case z9hx => kernel_rfl!); (case z9hl => k_get); (case z9hv => first | exact rfl | k_handed)) | ((with_reducible refine' Exs.locX ?z9hs ?z9hv ?z9hn ?_); (case z9hs => assumption); (case z9hv => ksk_a2); (case z9hn => kernel_rfl)) | ((with_reducible refine' Exs.nil ?_)) | ((with_reducible refine' Exs.cons ?z9hp ?_); (case z9hp => exact rfl)) | ((with_reducible refine' Ex.callFX ?z9hs ?z9hg ?z9hf ?z9hn ?_); (case z9hs => assumption); (case z9hg => k_is); (case z9hf => k_is); (case z9hn => kernel_rfl)) | ((with_reducible refine' Ex.tup ?z9hz ?_); (case z9hz => exact rfl)) | ((with_reducible refine' Ss.iteR ?_)) | ((with_reducible refine' Ex.callB ?z9hs ?z9hg ?z9hv ?z9hm ?z9hk ?z9hd ?z9hp ?_); (case z9hs => assumption); (case z9hg => k_is); (case z9hv => boot_fast); (case z9hm => decide); (case z9hk => kernel_rfl!); (case z9hd => kernel_rfl); (case z9hp => exact rfl)) | ((with_reducible refine' Ss.asg2 ?z9hs ?z9hx ?z9hy ?z9hw ?z9hn ?_); (case z9hs => assumption); (case z9hx => kernel_rfl!); (case z9hy => kernel_rfl!); (case z9hw => (intro _; exact rfl)); (case z9hn => (intro _; exact rfl))) | ((with_reducible refine' ⟨_, _, _, _, _, _, rfl, ?z9m, ?z9d1, ?z9d2, ?_⟩); (case z9m => ksk_a2); (case z9d1 => first | ((refine' Drp.same ?_); kernel_rfl!) | ((refine' Drp.out ?z9x ?z9y); (case z9x => repeat (first | with_reducible exact Drop.head | with_reducible apply Drop.tail)); (case z9y => kernel_rfl!))); (case z9d2 => first | ((refine' Drp.same ?_); kernel_rfl!) | ((refine' Drp.out ?z9x ?z9y); (case z9x => repeat (first | with_reducible exact Drop.head | with_reducible apply Drop.tail)); (case z9y => kernel_rfl!)))) | ((with_reducible refine' Ex.gloX ?z9hs ?z9e ?z9hn ?_); (case z9hs => assumption); (case z9e => k_is); (case z9hn => kernel_rfl))))
  · have op2 := op
    cases op2
    refine RE.enter (binds := [("left", .ref b)]) (by kas_ty) ?_
    intro G all all0 hw hs hn hS hx9 s0 sub
    (repeat' (first | ((with_reducible refine' Ca.rd ?z9hw ?z9hn ?z9C ?z9sb ?_); (case z9C => first | with_reducible exact SpineC.use Sp sp); (case z9hw => assumption); (case z9hn => first | assumption | exact Nat.le_trans (Nat.le_of_ble_eq_true rfl) (by assumption) | omega); (case z9sb => k_units); intro v9 tl9 sb9 o9; cases o9) | ((with_reducible refine' Ca.re ?z9hw ?z9hn ?z9hS ?z9hx ?z9C ?z9s0 ?z9sb); (case z9C => first | with_reducible exact OwnE.use Ow (by assumption)); (case z9hw => assumption); (case z9hn => first | assumption | exact Nat.le_trans (Nat.le_of_ble_eq_true rfl) (by assumption) | omega); (case z9hS => assumption); (case z9hx => assumption); (case z9s0 => k_units); (case z9sb => k_units)) | ((with_reducible refine' Ca.re ?z9hw ?z9hn ?z9hS ?z9hx ?z9C ?z9s0 ?z9sb); (case z9C => first | with_reducible exact OperHC.two Oh op | with_reducible exact OperHC.bad Oh op hx); (case z9hw => assumption); (case z9hn => first | assumption | exact Nat.le_trans (Nat.le_of_ble_eq_true rfl) (by assumption) | omega); (case z9hS => assumption); (case z9hx => assumption); (case z9s0 => k_units); (case z9sb => k_units)) | ((with_reducible refine' Te.plain ?z9ht ?_); (case z9ht => (intro _ _; exact rfl))) | (with_reducible refine' ⟨_, rfl, ?_⟩) | ((with_reducible refine' Ss.isiN ?z9hs ?z9hv ?z9hn ?z9hg ?z9m1 ?z9m2 ?z9hD ?_); (case z9hs => assumption); (case z9hv => ksk_a2); (case z9hn => kernel_rfl); (case z9hg => k_is); (case z9m1 => ksk_a2); (case z9m2 => ksk_a2); (case z9hD => kernel_rfl!)) | ((with_reducible refine' Te.isiX false ?z9hs ?z9hv ?z9hn ?z9hg ?z9m1 ?z9m2 ?z9hD ?_); (case z9hs => assumption); (case z9hv => ksk_a2); (case z9hn => kernel_rfl); (case z9hg => k_is); (case z9m1 => ksk_a2); (case z9m2 => ksk_a2); (case z9hD => kernel_rfl!)) | ((with_reducible refine' Te.isiX true ?z9hs ?z9hv ?z9hn ?z9hg ?z9m1 ?z9m2 ?z9hD ?_); (case z9hs => assumption); (case z9hv => ksk_a2); (case z9hn => kernel_rfl); (case z9hg => k_is); (case z9m1 => ksk_a2); (case z9m2 => ksk_a2); (case z9hD => kernel_rfl!)) | ((with_reducible refine' Ca.isi ?z9m1 ?z9m2 ?z9hD ?z9hC false ?z9hb ?_); (case z9m1 => ksk_a2); (case z9m2 => ksk_a2); (case z9hD => kernel_rfl!); (case z9hC => kernel_rfl!); (case z9hb => kernel_rfl!)) | ((with_reducible refine' Ca.isi ?z9m1 ?z9m2 ?z9hD ?z9hC true ?z9hb ?_); (case z9m1 => ksk_a2); (case z9m2 => ksk_a2); (case z9hD => kernel_rfl!); (case z9hC => kernel_rfl!); (case z9hb => kernel_rfl!)) | ((with_reducible refine' Ex.attrX ?z9hs ?z9hv ?z9hn ?z9m1 ?z9m2 ?z9hD ?z9hl ?z9hh ?_); (case z9hs => assumption); (case z9hv => ksk_a2); (case z9hn => kernel_rfl); (case z9m1 => ksk_a2); (case z9m2 => ksk_a2); (case z9hD => kernel_rfl!); (case z9hl => k_get); (case z9hh => first | exact rfl | k_handed)) | ((with_reducible refine' Ga.node ?z9m1 ?z9m2 ?z9hD ?z9hx ?z9hl ?z9hv ?_); (case z9m1 => ksk_a2); (case z9m2 => ksk_a2); (case z9hD => kernel_rfl!); (case z9hx => kernel_rfl!); (case z9hl => k_get); (case z9hv => first | exact rfl | k_handed)) | ((with_reducible refine' Exs.locX ?z9hs ?z9hv ?z9hn ?_); (case z9hs => assumption); (case z9hv => ksk_a2); (case z9hn => kernel_rfl)) | ((with_reducible refine' Exs.nil ?_)) | ((with_reducible refine' Exs.cons ?z9hp ?_); (case z9hp => exact rfl)) | ((with_reducible refine' Ex.callFX ?z9hs ?z9hg ?z9hf ?z9hn ?_); (case z9hs => assumption); (case z9hg => k_is); (case z9hf => k_is); (case z9hn => kernel_rfl)) | ((with_reducible refine' Ex.tup ?z9hz ?_); (case z9hz => exact rfl)) | ((with_reducible refine' Ss.iteR ?_)) | ((with_reducible refine' Ex.callB ?z9hs ?z9hg ?z9hv ?z9hm ?z9hk ?z9hd ?z9hp ?_); (case z9hs => assumption); (case z9hg => k_is); (case z9hv => boot_fast); (case z9hm => decide); (case z9hk => kernel_rfl!); (case z9hd => kernel_rfl); (case z9hp => exact rfl)) | ((with_reducible refine' Ss.asg2 ?z9hs ?z9hx ?z9hy ?z9hw ?z9hn ?_); (case z9hs => assumption); (case z9hx => kernel_rfl!); (case z9hy => kernel_rfl!); (case z9hw => (intro _; exact rfl)); (case z9hn => (intro _; exact rfl))) | ((with_reducible refine' ⟨_, _, _, _, _, _, rfl, ?z9m, ?z9d1, ?z9d2, ?_⟩); (case z9m => ksk_a2); (case z9d1 => first | ((refine' Drp.same ?_); kernel_rfl!) | ((refine' Drp.out ?z9x ?z9y); (case z9x => repeat (first | with_reducible exact Drop.head | with_reducible apply Drop.tail)); (case z9y => kernel_rfl!))); (case z9d2 => first | ((refine' Drp.same ?_); kernel_rfl!) | ((refine' Drp.out ?z9x ?z9y); (case z9x => repeat (first | with_reducible exact Drop.head | with_reducible apply Drop.tail)); (case z9y => kernel_rfl!)))) | ((with_reducible refine' Ex.gloX ?z9hs ?z9e ?z9hn ?_); (case z9hs => assumption); (case z9e => k_is); (case z9hn => kernel_rfl))))
theorem fleft_fn {w : World} (Fb : FBaseC w) (Sp : SpineC w) (Pa : PatAll w) : ∀ {led : Led} {a : Addr} {x : Str} {ps : List PE}, LeftIn led a (.fn x ps) → OkAll ps → RD w 80 845 [.ref a] led (O_fn x ps) := by
  intro led b x ps li ok
  rcases li.fnCs with bi | ⟨c, b1, i, p1, qs, q1, ap, pn, bi, r1, rfl⟩
  · exact RDs.le (by decide) (Fb.fn bi ok)
  clear li
  have z1 := (ok q1 (by simp)).2
  have ok2 : OkAll (p1 :: qs) := fun p hp => ok p (List.mem_append_left _ hp)
  have hl := bi.len
  simp only [List.length_cons] at hl
  have sp : SpineIn led b c [.ref b1] := by cases pn with | mk m1 m2 => exact .s1 ap m1 m2 rfl rfl
  cases ap
  cases pn
  refine RD.enter (binds := [("left", .ref b)]) (by kas_ty) ?_
  intro G all hw hs hn sub
  (repeat' (first | ((with_reducible refine' Ca.rd ?z9hw ?z9hn ?z9C ?z9sb ?_); (case z9C => first | with_reducible exact SpineC.use Sp sp); (case z9hw => assumption); (case z9hn => first | assumption | exact Nat.le_trans (Nat.le_of_ble_eq_true rfl) (by assumption) | omega); (case z9sb => k_units); intro v9 tl9 sb9 o9; cases o9) | ((with_reducible refine' Ca.rd ?z9hw ?z9hn ?z9C ?z9sb ?_); (case z9C => first | with_reducible exact FBaseC.fn Fb bi ok2); (case z9hw => assumption); (case z9hn => first | assumption | exact Nat.le_trans (Nat.le_of_ble_eq_true rfl) (by assumption) | omega); (case z9sb => k_units); intro v9 tl9 sb9 o9; (rcases o9 with ⟨M1', M2', P9⟩; rcases pat_split P9 with ⟨b9, u9, q9, R9, P9', l9'⟩; subst q9; clear P9; (try simp only [List.length_cons, List.length_nil] at l9'))) | ((with_reducible refine' Te.plain ?z9ht ?_); (case z9ht => (intro _ _; exact rfl))) | (with_reducible refine' ⟨_, rfl, ?_⟩) | ((with_reducible refine' Ss.isiN ?z9hs ?z9hv ?z9hn ?z9hg ?z9m1 ?z9m2 ?z9hD ?_); (case z9hs => assumption); (case z9hv => ksk_a2); (case z9hn => kernel_rfl); (case z9hg => k_is); (case z9m1 => ksk_a2); (case z9m2 => ksk_a2); (case z9hD => kernel_rfl!)) | ((with_reducible refine' Te.isiX false ?z9hs ?z9hv ?z9hn ?z9hg ?z9m1 ?z9m2 ?z9hD ?_); (case z9hs => assumption); (case z9hv => ksk_a2); (case z9hn => kernel_rfl); (case z9hg => k_is); (case z9m1 => ksk_a2); (case z9m2 => ksk_a2); (case z9hD => kernel_rfl!)) | ((with_reducible refine' Te.isiX true ?z9hs ?z9hv ?z9hn ?z9hg ?z9m1 ?z9m2 ?z9hD ?_); (case z9hs => assumption); (case z9hv => ksk_a2); (case z9hn => kernel_rfl); (case z9hg => k_is); (case z9m1 => ksk_a2); (case z9m2 => ksk_a2); (case z9hD => kernel_rfl!)) | ((with_reducible refine' Ca.isi ?z9m1 ?z9m2 ?z9hD ?z9hC false ?z9hb ?_); (case z9m1 => ksk_a2); (case z9m2 => ksk_a2); (case z9hD => kernel_rfl!); (case z9hC => kernel_rfl!); (case z9hb => kernel_rfl!)) | ((with_reducible refine' Ca.isi ?z9m1 ?z9m2 ?z9hD ?z9hC true ?z9hb ?_); (case z9m1 => ksk_a2); (case z9m2 => ksk_a2); (case z9hD => kernel_rfl!); (case z9hC => kernel_rfl!); (case z9hb => kernel_rfl!)) | ((with_reducible refine' Ex.attrX ?z9hs ?z9hv ?z9hn ?z9m1 ?z9m2 ?z9hD ?z9hl ?z9hh ?_); (case z9hs => assumption); (case z9hv => ksk_a2); (case z9hn => kernel_rfl); (case z9m1 => ksk_a2); (case z9m2 => ksk_a2); (case z9hD => kernel_rfl!); (case z9hl => k_get); (case z9hh => first | exact rfl | k_handed)) | ((with_reducible refine' Ga.node ?z9m1 ?z9m2 ?z9hD ?z9hx ?z9hl ?z9hv ?_); (case z9m1 => ksk_a2); (case z9m2 => ksk_a2); (case z9hD => kernel_rfl!); (case z9hx => kernel_rfl!); (case z9hl => k_get); (case z9hv => first | exact rfl | k_handed)) | ((with_reducible refine' Ex.compF ?z9hg ?z9hf ?z9hk ?z9hd ?z9hxd ?z9hclos ?z9hcell ?z9hkind ?z9hnames ?z9hx ?z9hfs ?_); (case z9hg => k_is); (case z9hf => k_is); (case z9hk => kernel_rfl!); (case z9hd => kernel_rfl); (case z9hxd => kernel_rfl); (case z9hclos => exact rfl); (case z9hcell => kernel_rfl); (case z9hkind => exact rfl); (case z9hnames => kernel_rfl); (case z9hx => kernel_rfl!); (case z9hfs => (intro _ _; exact rfl)); intro m9) | ((with_reducible refine' ⟨_, _, _, rfl, ?z9m, ?z9hz, ?_⟩); (case z9m => ksk_a2); (case z9hz => exact Nat.le_of_ble_eq_true rfl)) | ((with_reducible refine' MapC.cons (FRd.mk ?z9hw ?z9hn ?z9C ?z9sb ?_)); (case z9hw => assumption); (case z9C => exact PatAll.use Pa (by assumption)); (case z9hn => omega); (case z9sb => k_units); intro r9 tl9 sb9 o9; cases o9; (refine' ⟨?z9m, ?_⟩; (case z9m => ksk_a2))) | ((with_reducible refine' MapC.nil ?_); intro D9) | ((with_reducible refine' Exs.locX ?z9hs ?z9hv ?z9hn ?_); (case z9hs => assumption); (case z9hv => ksk_a2); (case z9hn => kernel_rfl)) | ((with_reducible refine' Exs.nil ?_)) | ((with_reducible refine' Exs.cons ?z9hp ?_); (case z9hp => exact rfl)) | ((with_reducible refine' Ex.locX ?z9hs ?z9hv ?z9hn ?_); (case z9hs => assumption); (case z9hv => ksk_a2); (case z9hn => kernel_rfl)) | ((with_reducible refine' Ex.callFX ?z9hs ?z9hg ?z9hf ?z9hn ?_); (case z9hs => assumption); (case z9hg => k_is); (case z9hf => k_is); (case z9hn => kernel_rfl)) | ((with_reducible refine' Ex.none ?_)) | ((with_reducible refine' Ex.tup ?z9hz ?_); (case z9hz => exact rfl)) | ((with_reducible refine' Ex.lst ?z9hz ?_); (case z9hz => exact rfl)) | ((with_reducible refine' Ss.ret ?_)) | ((with_reducible refine' Ss.iteR ?_)) | ((with_reducible refine' Ss.iteN ?_)) | ((with_reducible refine' Ss.asg ?z9hs ?z9hk ?z9hw ?z9hx ?_); (case z9hs => assumption); (case z9hk => kernel_rfl!); (case z9hw => (intro _; exact rfl)); (case z9hx => kernel_rfl!)) | ((with_reducible refine' Te.cmp ?z9hm ?_); (case z9hm => exact rfl)) | ((with_reducible refine' Te.ands ?_); intro w9) | ((with_reducible refine' Te.ors ?_); intro w9) | ((with_reducible refine' Te.and ?_)) | ((with_reducible refine' Te.or ?_)) | ((with_reducible refine' Te.and0 ?_)) | ((with_reducible refine' Te.or0 ?_)) | ((with_reducible refine' Cm.eqL ?z9m ?z9n ?z9e ?_); (case z9m => ksk_a2); (case z9n => ksk_a2); (case z9e => exact rfl)) | ((with_reducible refine' Cm.neL ?z9m ?z9n ?z9e ?_); (case z9m => ksk_a2); (case z9n => ksk_a2); (case z9e => exact rfl)) | ((with_reducible refine' Cm.isRN ?_)) | ((with_reducible refine' Ex.bin ?_)) | ((with_reducible refine' Ex.itemX ?z9hs ?z9hv ?z9hn ?z9m ?z9ho ?z9hi ?z9hx ?_); (case z9hs => assumption); (case z9hv => ksk_a2); (case z9hn => kernel_rfl); (case z9m => ksk_a2); (case z9ho => first | with_reducible exact SeqO.list | with_reducible exact SeqO.pair | with_reducible exact SeqO.tup); (case z9hi => kernel_rfl); (case z9hx => first | exact rfl | assumption)) | ((with_reducible refine' Ex.callB ?z9hs ?z9hg ?z9hv ?z9hm ?z9hk ?z9hd ?z9hp ?_); (case z9hs => assumption); (case z9hg => k_is); (case z9hv => boot_fast); (case z9hm => decide); (case z9hk => kernel_rfl!); (case z9hd => kernel_rfl); (case z9hp => exact rfl)) | ((with_reducible refine' Bi.cat ?z9ma ?z9mb ?z9hz ?_); (case z9ma => ksk_a2); (case z9mb => ksk_a2); (case z9hz => first | exact Nat.le_of_ble_eq_true rfl | (simp only [List.length_append, List.length_cons, List.length_nil]; omega)); intro D9) | ((with_reducible refine' Ss.asg2 ?z9hs ?z9hx ?z9hy ?z9hw ?z9hn ?_); (case z9hs => assumption); (case z9hx => kernel_rfl!); (case z9hy => kernel_rfl!); (case z9hw => (intro _; exact rfl)); (case z9hn => (intro _; exact rfl))) | ((with_reducible refine' ⟨_, _, _, _, _, _, rfl, ?z9m, ?z9d1, ?z9d2, ?_⟩); (case z9m => ksk_a2); (case z9d1 => first | ((refine' Drp.same ?_); kernel_rfl!) | ((refine' Drp.out ?z9x ?z9y); (case z9x => repeat (first | with_reducible exact Drop.head | with_reducible apply Drop.tail)); (case z9y => kernel_rfl!))); (case z9d2 => first | ((refine' Drp.same ?_); kernel_rfl!) | ((refine' Drp.out ?z9x ?z9y); (case z9x => repeat (first | with_reducible exact Drop.head | with_reducible apply Drop.tail)); (case z9y => kernel_rfl!)))) | ((with_reducible refine' Ex.gloX ?z9hs ?z9e ?z9hn ?_); (case z9hs => assumption); (case z9e => k_is); (case z9hn => kernel_rfl)) | (with_reducible intro a9)))
  all_goals (with_reducible refine Fin.mk (by ki_room) (by ki_room) ?_)
  exact .mk (vs := _ :: _ ++ [_]) (by ksk_a2) (by ksk_a2) (PatAllIn.snoc (.cons (by (refine PatIn.mono (by assumption) ?s9; (case s9 => k_units))) (by (refine PatAllIn.mono (by assumption) ?s9; (case s9 => k_units)))) (by (refine PatIn.mono (by assumption) ?s9; (case s9 => k_units))))
theorem fleft_none0 {w : World} (Fb : FBaseC w) (Sp : SpineC w) : ∀ {led : Led} {a : Addr}, LeftIn led a .none0 → RD w 80 845 [.ref a] led O_none := by
  intro led b li
  obtain ⟨c, b1, i, x, ap, pn, bi⟩ := li.none0Cs
  clear li
  have ok2 : OkAll [] := ok0
  have sp : SpineIn led b c [.ref b1] := by cases pn with | mk m1 m2 => exact .s1 ap m1 m2 rfl rfl
  cases ap
  cases pn
  refine RD.enter (binds := [("left", .ref b)]) (by kas_ty) ?_
  intro G all hw hs hn sub
  (repeat' (first | ((with_reducible refine' Ca.rd ?z9hw ?z9hn ?z9C ?z9sb ?_); (case z9C => first | with_reducible exact SpineC.use Sp sp); (case z9hw => assumption); (case z9hn => first | assumption | exact Nat.le_trans (Nat.le_of_ble_eq_true rfl) (by assumption) | omega); (case z9sb => k_units); intro v9 tl9 sb9 o9; cases o9) | ((with_reducible refine' Ca.rd ?z9hw ?z9hn ?z9C ?z9sb ?_); (case z9C => first | with_reducible exact FBaseC.fn Fb bi ok2); (case z9hw => assumption); (case z9hn => first | assumption | exact Nat.le_trans (Nat.le_of_ble_eq_true rfl) (by assumption) | omega); (case z9sb => k_units); intro v9 tl9 sb9 o9; (rcases o9 with ⟨M1', M2', P9⟩; have q9 := pat_nil P9; subst q9)) | ((with_reducible refine' Te.plain ?z9ht ?_); (case z9ht => (intro _ _; exact rfl))) | (with_reducible refine' ⟨_, rfl, ?_⟩) | ((with_reducible refine' Ss.isiN ?z9hs ?z9hv ?z9hn ?z9hg ?z9m1 ?z9m2 ?z9hD ?_); (case z9hs => assumption); (case z9hv => ksk_a2); (case z9hn => kernel_rfl); (case z9hg => k_is); (case z9m1 => ksk_a2); (case z9m2 => ksk_a2); (case z9hD => kernel_rfl!)) | ((with_reducible refine' Te.isiX false ?z9hs ?z9hv ?z9hn ?z9hg ?z9m1 ?z9m2 ?z9hD ?_); (case z9hs => assumption); (case z9hv => ksk_a2); (case z9hn => kernel_rfl); (case z9hg => k_is); (case z9m1 => ksk_a2); (case z9m2 => ksk_a2); (case z9hD => kernel_rfl!)) | ((with_reducible refine' Te.isiX true ?z9hs ?z9hv ?z9hn ?z9hg ?z9m1 ?z9m2 ?z9hD ?_); (case z9hs => assumption); (case z9hv => ksk_a2); (case z9hn => kernel_rfl); (case z9hg => k_is); (case z9m1 => ksk_a2); (case z9m2 => ksk_a2); (case z9hD => kernel_rfl!)) | ((with_reducible refine' Ca.isi ?z9m1 ?z9m2 ?z9hD ?z9hC false ?z9hb ?_); (case z9m1 => ksk_a2); (case z9m2 => ksk_a2); (case z9hD => kernel_rfl!); (case z9hC => kernel_rfl!); (case z9hb => kernel_rfl!)) | ((with_reducible refine' Ca.isi ?z9m1 ?z9m2 ?z9hD ?z9hC true ?z9hb ?_); (case z9m1 => ksk_a2); (case z9m2 => ksk_a2); (case z9hD => kernel_rfl!); (case z9hC => kernel_rfl!); (case z9hb => kernel_rfl!)) | ((with_reducible refine' Ex.attrX ?z9hs ?z9hv ?z9hn ?z9m1 ?z9m2 ?z9hD ?z9hl ?z9hh ?_); (case z9hs => assumption); (case z9hv => ksk_a2); (case z9hn => kernel_rfl); (case z9m1 => ksk_a2); (case z9m2 => ksk_a2); (case z9hD => kernel_rfl!); (case z9hl => k_get); (case z9hh => first | exact rfl | k_handed)) | ((with_reducible refine' Ga.node ?z9m1 ?z9m2 ?z9hD ?z9hx ?z9hl ?z9hv ?_); (case z9m1 => ksk_a2); (case z9m2 => ksk_a2); (case z9hD => kernel_rfl!); (case z9hx => kernel_rfl!); (case z9hl => k_get); (case z9hv => first | exact rfl | k_handed)) | ((with_reducible refine' Exs.locX ?z9hs ?z9hv ?z9hn ?_); (case z9hs => assumption); (case z9hv => ksk_a2); (case z9hn => kernel_rfl)) | ((with_reducible refine' Exs.nil ?_)) | ((with_reducible refine' Exs.cons ?z9hp ?_); (case z9hp => exact rfl)) | ((with_reducible refine' Ex.locX ?z9hs ?z9hv ?z9hn ?_); (case z9hs => assumption); (case z9hv => ksk_a2); (case z9hn => kernel_rfl)) | ((with_reducible refine' Ex.callFX ?z9hs ?z9hg ?z9hf ?z9hn ?_); (case z9hs => assumption); (case z9hg => k_is); (case z9hf => k_is); (case z9hn => kernel_rfl)) | ((with_reducible refine' Ex.none ?_)) | ((with_reducible refine' Ex.lst ?z9hz ?_); (case z9hz => exact rfl)) | ((with_reducible refine' Ss.iteR ?_)) | ((with_reducible refine' Ss.iteN ?_)) | ((with_reducible refine' Ss.asg ?z9hs ?z9hk ?z9hw ?z9hx ?_); (case z9hs => assumption); (case z9hk => kernel_rfl!); (case z9hw => (intro _; exact rfl)); (case z9hx => kernel_rfl!)) | ((with_reducible refine' Te.cmp ?z9hm ?_); (case z9hm => exact rfl)) | ((with_reducible refine' Te.ands ?_); intro w9) | ((with_reducible refine' Te.ors ?_); intro w9) | ((with_reducible refine' Te.and ?_)) | ((with_reducible refine' Te.or ?_)) | ((with_reducible refine' Te.and0 ?_)) | ((with_reducible refine' Cm.eq0 ?z9m ?z9n ?_); (case z9m => ksk_a2); (case z9n => ksk_a2)) | ((with_reducible refine' Cm.neL ?z9m ?z9n ?z9e ?_); (case z9m => ksk_a2); (case z9n => ksk_a2); (case z9e => exact rfl)) | ((with_reducible refine' Cm.isRN ?_)) | ((with_reducible refine' Ex.itemX ?z9hs ?z9hv ?z9hn ?z9m ?z9ho ?z9hi ?z9hx ?_); (case z9hs => assumption); (case z9hv => ksk_a2); (case z9hn => kernel_rfl); (case z9m => ksk_a2); (case z9ho => first | with_reducible exact SeqO.list | with_reducible exact SeqO.pair | with_reducible exact SeqO.tup); (case z9hi => kernel_rfl); (case z9hx => first | exact rfl | assumption)) | ((with_reducible refine' Ex.callB ?z9hs ?z9hg ?z9hv ?z9hm ?z9hk ?z9hd ?z9hp ?_); (case z9hs => assumption); (case z9hg => k_is); (case z9hv => boot_fast); (case z9hm => decide); (case z9hk => kernel_rfl!); (case z9hd => kernel_rfl); (case z9hp => exact rfl)) | ((with_reducible refine' Ss.asg2 ?z9hs ?z9hx ?z9hy ?z9hw ?z9hn ?_); (case z9hs => assumption); (case z9hx => kernel_rfl!); (case z9hy => kernel_rfl!); (case z9hw => (intro _; exact rfl)); (case z9hn => (intro _; exact rfl))) | ((with_reducible refine' ⟨_, _, _, _, _, _, rfl, ?z9m, ?z9d1, ?z9d2, ?_⟩); (case z9m => ksk_a2); (case z9d1 => first | ((refine' Drp.same ?_); kernel_rfl!) | ((refine' Drp.out ?z9x ?z9y); (case z9x => repeat (first | with_reducible exact Drop.head | with_reducible apply Drop.tail)); (case z9y => kernel_rfl!))); (case z9d2 => first | ((refine' Drp.same ?_); kernel_rfl!) | ((refine' Drp.out ?z9x ?z9y); (case z9x => repeat (first | with_reducible exact Drop.head | with_reducible apply Drop.tail)); (case z9y => kernel_rfl!)))) | ((with_reducible refine' Ex.gloX ?z9hs ?z9e ?z9hn ?_); (case z9hs => assumption); (case z9e => k_is); (case z9hn => kernel_rfl)) | (with_reducible intro a9)))
  all_goals (with_reducible refine Fin.mk (by ki_room) (by ki_room) ?_)
  exact .mk
theorem fleft_bad {w : World} (Fb : FBaseC w) (Sp : SpineC w) : ∀ {led : Led} {a : Addr}, LeftIn led a .bad → RE w 80 845 [.ref a] led := by
  intro led b li
  rcases li.badCs with bi | ⟨c, b1, i, ap, pn, bi⟩
  · intro G ρ all all0 R hw hn
    exact Fb.bad bi G ρ all all0 R hw (Nat.le_trans (by decide) hn)
  clear li
  have sp : SpineIn led b c [.ref b1] := by cases pn with | mk m1 m2 => exact .s1 ap m1 m2 rfl rfl
  cases ap
  cases pn
  refine RE.enter (binds := [("left", .ref b)]) (by kas_ty) ?_
  intro G all all0 hw hs hn hS hx s0 sub
  (repeat' (first | ((with_reducible refine' Ca.rd ?z9hw ?z9hn ?z9C ?z9sb ?_); (case z9C => first | with_reducible exact SpineC.use Sp sp); (case z9hw => assumption); (case z9hn => first | assumption | exact Nat.le_trans (Nat.le_of_ble_eq_true rfl) (by assumption) | omega); (case z9sb => k_units); intro v9 tl9 sb9 o9; cases o9) | ((with_reducible refine' Ca.re ?z9hw ?z9hn ?z9hS ?z9hx ?z9C ?z9s0 ?z9sb); (case z9C => first | with_reducible exact FBaseC.bad Fb bi); (case z9hw => assumption); (case z9hn => first | assumption | exact Nat.le_trans (Nat.le_of_ble_eq_true rfl) (by assumption) | omega); (case z9hS => assumption); (case z9hx => assumption); (case z9s0 => k_units); (case z9sb => k_units)) | ((with_reducible refine' Te.plain ?z9ht ?_); (case z9ht => (intro _ _; exact rfl))) | (with_reducible refine' ⟨_, rfl, ?_⟩) | ((with_reducible refine' Ss.isiN ?z9hs ?z9hv ?z9hn ?z9hg ?z9m1 ?z9m2 ?z9hD ?_); (case z9hs => assumption); (case z9hv => ksk_a2); (case z9hn => kernel_rfl); (case z9hg => k_is); (case z9m1 => ksk_a2); (case z9m2 => ksk_a2); (case z9hD => kernel_rfl!)) | ((with_reducible refine' Te.isiX false ?z9hs ?z9hv ?z9hn ?z9hg ?z9m1 ?z9m2 ?z9hD ?_); (case z9hs => assumption); (case z9hv => ksk_a2); (case z9hn => kernel_rfl); (case z9hg => k_is); (case z9m1 => ksk_a2); (case z9m2 => ksk_a2); (case z9hD => kernel_rfl!)) | ((with_reducible refine' Te.isiX true ?z9hs ?z9hv ?z9hn ?z9hg ?z9m1 ?z9m2 ?z9hD ?_); (case z9hs => assumption); (case z9hv => ksk_a2); (case z9hn => kernel_rfl); (case z9hg => k_is); (case z9m1 => ksk_a2); (case z9m2 => ksk_a2); (case z9hD => kernel_rfl!)) | ((with_reducible refine' Ca.isi ?z9m1 ?z9m2 ?z9hD ?z9hC false ?z9hb ?_); (case z9m1 => ksk_a2); (case z9m2 => ksk_a2); (case z9hD => kernel_rfl!); (case z9hC => kernel_rfl!); (case z9hb => kernel_rfl!)) | ((with_reducible refine' Ca.isi ?z9m1 ?z9m2 ?z9hD ?z9hC true ?z9hb ?_); (case z9m1 => ksk_a2); (case z9m2 => ksk_a2); (case z9hD => kernel_rfl!); (case z9hC => kernel_rfl!); (case z9hb => kernel_rfl!)) | ((with_reducible refine' Ex.attrX ?z9hs ?z9hv ?z9hn ?z9m1 ?z9m2 ?z9hD ?z9hl ?z9hh ?_); (case z9hs => assumption); (case z9hv => ksk_a2); (case z9hn => kernel_rfl); (case z9m1 => ksk_a2); (case z9m2 => ksk_a2); (case z9hD => kernel_rfl!); (case z9hl => k_get); (case z9hh => first | exact rfl | k_handed)) | ((with_reducible refine' Ga.node ?z9m1 ?z9m2 ?z9hD ?z9hx ?z9hl ?z9hv ?_); (case z9m1 => ksk_a2); (case z9m2 => ksk_a2); (case z9hD => kernel_rfl!); (case z9hx => kernel_rfl!); (case z9hl => k_get); (case z9hv => first | exact rfl | k_handed)) | ((with_reducible refine' Exs.locX ?z9hs ?z9hv ?z9hn ?_); (case z9hs => assumption); (case z9hv => ksk_a2); (case z9hn => kernel_rfl)) | ((with_reducible refine' Exs.nil ?_)) | ((with_reducible refine' Exs.cons ?z9hp ?_); (case z9hp => exact rfl)) | ((with_reducible refine' Ex.locX ?z9hs ?z9hv ?z9hn ?_); (case z9hs => assumption); (case z9hv => ksk_a2); (case z9hn => kernel_rfl)) | ((with_reducible refine' Ex.callFX ?z9hs ?z9hg ?z9hf ?z9hn ?_); (case z9hs => assumption); (case z9hg => k_is); (case z9hf => k_is); (case z9hn => kernel_rfl)) | ((with_reducible refine' Ex.lst ?z9hz ?_); (case z9hz => exact rfl)) | ((with_reducible refine' Ss.iteN ?_)) | ((with_reducible refine' Ss.asg ?z9hs ?z9hk ?z9hw ?z9hx ?_); (case z9hs => assumption); (case z9hk => kernel_rfl!); (case z9hw => (intro _; exact rfl)); (case z9hx => kernel_rfl!)) | ((with_reducible refine' Te.cmp ?z9hm ?_); (case z9hm => exact rfl)) | ((with_reducible refine' Te.ands ?_); intro w9) | ((with_reducible refine' Te.and ?_)) | ((with_reducible refine' Te.and0 ?_)) | ((with_reducible refine' Cm.neL ?z9m ?z9n ?z9e ?_); (case z9m => ksk_a2); (case z9n => ksk_a2); (case z9e => exact rfl)) | ((with_reducible refine' Ex.callB ?z9hs ?z9hg ?z9hv ?z9hm ?z9hk ?z9hd ?z9hp ?_); (case z9hs => assumption); (case z9hg => k_is); (case z9hv => boot_fast); (case z9hm => decide); (case z9hk => kernel_rfl!); (case z9hd => kernel_rfl); (case z9hp => exact rfl)) | ((with_reducible refine' Ss.asg2 ?z9hs ?z9hx ?z9hy ?z9hw ?z9hn ?_); (case z9hs => assumption); (case z9hx => kernel_rfl!); (case z9hy => kernel_rfl!); (case z9hw => (intro _; exact rfl)); (case z9hn => (intro _; exact rfl))) | ((with_reducible refine' ⟨_, _, _, _, _, _, rfl, ?z9m, ?z9d1, ?z9d2, ?_⟩); (case z9m => ksk_a2); (case z9d1 => first | ((refine' Drp.same ?_); kernel_rfl!) | ((refine' Drp.out ?z9x ?z9y); (case z9x => repeat (first | with_reducible exact Drop.head | with_reducible apply Drop.tail)); (case z9y => kernel_rfl!))); (case z9d2 => first | ((refine' Drp.same ?_); kernel_rfl!) | ((refine' Drp.out ?z9x ?z9y); (case z9x => repeat (first | with_reducible exact Drop.head | with_reducible apply Drop.tail)); (case z9y => kernel_rfl!)))) | ((with_reducible refine' Ex.gloX ?z9hs ?z9e ?z9hn ?_); (case z9hs => assumption); (case z9e => k_is); (case z9hn => kernel_rfl)) | (with_reducible intro a9)))
theorem fleft_pat {w : World} (Sp : SpineC w) : ∀ {led : Led} {a : Addr} {p : PE}, LeftIn led a (.pat p) → RD w 80 845 [.ref a] led O_none := by
  intro led b q li
  obtain ⟨r, ⟨q1, rfl⟩ | ⟨q1, rfl⟩⟩ := li.patCs
  · clear li
    cases r with
    | app m1 m2 m3 m4 r1 =>
    have sp := SpineIn.s1 (.mk m1 m2) m3 m4 rfl rfl
    refine RD.enter (binds := [("left", .ref b)]) (by kas_ty) ?_
    intro G all hw hs hn sub
    (repeat' (first | ((with_reducible refine' Ca.rd ?z9hw ?z9hn ?z9C ?z9sb ?_); (case z9C => first | with_reducible exact SpineC.use Sp sp); (case z9hw => assumption); (case z9hn => first | assumption | exact Nat.le_trans (Nat.le_of_ble_eq_true rfl) (by assumption) | omega); (case z9sb => k_units); intro v9 tl9 sb9 o9; cases o9) | ((with_reducible refine' Te.plain ?z9ht ?_); (case z9ht => (intro _ _; exact rfl))) | (with_reducible refine' ⟨_, rfl, ?_⟩) | ((with_reducible refine' Ss.isiN ?z9hs ?z9hv ?z9hn ?z9hg ?z9m1 ?z9m2 ?z9hD ?_); (case z9hs => assumption); (case z9hv => ksk_a2); (case z9hn => kernel_rfl); (case z9hg => k_is); (case z9m1 => ksk_a2); (case z9m2 => ksk_a2); (case z9hD => kernel_rfl!)) | ((with_reducible refine' Te.isiX false ?z9hs ?z9hv ?z9hn ?z9hg ?z9m1 ?z9m2 ?z9hD ?_); (case z9hs => assumption); (case z9hv => ksk_a2); (case z9hn => kernel_rfl); (case z9hg => k_is); (case z9m1 => ksk_a2); (case z9m2 => ksk_a2); (case z9hD => kernel_rfl!)) | ((with_reducible refine' Te.isiX true ?z9hs ?z9hv ?z9hn ?z9hg ?z9m1 ?z9m2 ?z9hD ?_); (case z9hs => assumption); (case z9hv => ksk_a2); (case z9hn => kernel_rfl); (case z9hg => k_is); (case z9m1 => ksk_a2); (case z9m2 => ksk_a2); (case z9hD => kernel_rfl!)) | ((with_reducible refine' Ca.isi ?z9m1 ?z9m2 ?z9hD ?z9hC false ?z9hb ?_); (case z9m1 => ksk_a2); (case z9m2 => ksk_a2); (case z9hD => kernel_rfl!); (case z9hC => kernel_rfl!); (case z9hb => kernel_rfl!)) | ((with_reducible refine' Ca.isi ?z9m1 ?z9m2 ?z9hD ?z9hC true ?z9hb ?_); (case z9m1 => ksk_a2); (case z9m2 => ksk_a2); (case z9hD => kernel_rfl!); (case z9hC => kernel_rfl!); (case z9hb => kernel_rfl!)) | ((with_reducible refine' Exs.locX ?z9hs ?z9hv ?z9hn ?_); (case z9hs => assumption); (case z9hv => ksk_a2); (case z9hn => kernel_rfl)) | ((with_reducible refine' Exs.nil ?_)) | ((with_reducible refine' Exs.cons ?z9hp ?_); (case z9hp => exact rfl)) | ((with_reducible refine' Ex.callFX ?z9hs ?z9hg ?z9hf ?z9hn ?_); (case z9hs => assumption); (case z9hg => k_is); (case z9hf => k_is); (case z9hn => kernel_rfl)) | ((with_reducible refine' Ex.none ?_)) | ((with_reducible refine' Ss.ret ?_)) | ((with_reducible refine' Ss.iteN ?_)) | ((with_reducible refine' Te.ands ?_); intro w9) | ((with_reducible refine' Te.and ?_)) | ((with_reducible refine' Ex.callB ?z9hs ?z9hg ?z9hv ?z9hm ?z9hk ?z9hd ?z9hp ?_); (case z9hs => assumption); (case z9hg => k_is); (case z9hv => boot_fast); (case z9hm => decide); (case z9hk => kernel_rfl!); (case z9hd => kernel_rfl); (case z9hp => exact rfl)) | ((with_reducible refine' Ss.asg2 ?z9hs ?z9hx ?z9hy ?z9hw ?z9hn ?_); (case z9hs => assumption); (case z9hx => kernel_rfl!); (case z9hy => kernel_rfl!); (case z9hw => (intro _; exact rfl)); (case z9hn => (intro _; exact rfl))) | ((with_reducible refine' ⟨_, _, _, _, _, _, rfl, ?z9m, ?z9d1, ?z9d2, ?_⟩); (case z9m => ksk_a2); (case z9d1 => first | ((refine' Drp.same ?_); kernel_rfl!) | ((refine' Drp.out ?z9x ?z9y); (case z9x => repeat (first | with_reducible exact Drop.head | with_reducible apply Drop.tail)); (case z9y => kernel_rfl!))); (case z9d2 => first | ((refine' Drp.same ?_); kernel_rfl!) | ((refine' Drp.out ?z9x ?z9y); (case z9x => repeat (first | with_reducible exact Drop.head | with_reducible apply Drop.tail)); (case z9y => kernel_rfl!)))) | ((with_reducible refine' Ex.gloX ?z9hs ?z9e ?z9hn ?_); (case z9hs => assumption); (case z9e => k_is); (case z9hn => kernel_rfl))))
    all_goals (with_reducible refine Fin.mk (by ki_room) (by ki_room) ?_)
    exact .mk
  · clear li
    cases r with
    | tup m1 m2 m3 r1 r2 =>
    have sp := SpineIn.s0 m1 m2 rfl rfl
    refine RD.enter (binds := [("left", .ref b)]) (by kas_ty) ?_
    intro G all hw hs hn sub
    (repeat' (first | ((with_reducible refine' Ca.rd ?z9hw ?z9hn ?z9C ?z9sb ?_); (case z9C => first | with_reducible exact SpineC.use Sp sp); (case z9hw => assumption); (case z9hn => first | assumption | exact Nat.le_trans (Nat.le_of_ble_eq_true rfl) (by assumption) | omega); (case z9sb => k_units); intro v9 tl9 sb9 o9; cases o9) | ((with_reducible refine' Te.plain ?z9ht ?_); (case z9ht => (intro _ _; exact rfl))) | (with_reducible refine' ⟨_, rfl, ?_⟩) | ((with_reducible refine' Ss.isiN ?z9hs ?z9hv ?z9hn ?z9hg ?z9m1 ?z9m2 ?z9hD ?_); (case z9hs => assumption); (case z9hv => ksk_a2); (case z9hn => kernel_rfl); (case z9hg => k_is); (case z9m1 => ksk_a2); (case z9m2 => ksk_a2); (case z9hD => kernel_rfl!)) | ((with_reducible refine' Te.isiX false ?z9hs ?z9hv ?z9hn ?z9hg ?z9m1 ?z9m2 ?z9hD ?_); (case z9hs => assumption); (case z9hv => ksk_a2); (case z9hn => kernel_rfl); (case z9hg => k_is); (case z9m1 => ksk_a2); (case z9m2 => ksk_a2); (case z9hD => kernel_rfl!)) | ((with_reducible refine' Te.isiX true ?z9hs ?z9hv ?z9hn ?z9hg ?z9m1 ?z9m2 ?z9hD ?_); (case z9hs => assumption); (case z9hv => ksk_a2); (case z9hn => kernel_rfl); (case z9hg => k_is); (case z9m1 => ksk_a2); (case z9m2 => ksk_a2); (case z9hD => kernel_rfl!)) | ((with_reducible refine' Ca.isi ?z9m1 ?z9m2 ?z9hD ?z9hC false ?z9hb ?_); (case z9m1 => ksk_a2); (case z9m2 => ksk_a2); (case z9hD => kernel_rfl!); (case z9hC => kernel_rfl!); (case z9hb => kernel_rfl!)) | ((with_reducible refine' Ca.isi ?z9m1 ?z9m2 ?z9hD ?z9hC true ?z9hb ?_); (case z9m1 => ksk_a2); (case z9m2 => ksk_a2); (case z9hD => kernel_rfl!); (case z9hC => kernel_rfl!); (case z9hb => kernel_rfl!)) | ((with_reducible refine' Exs.locX ?z9hs ?z9hv ?z9hn ?_); (case z9hs => assumption); (case z9hv => ksk_a2); (case z9hn => kernel_rfl)) | ((with_reducible refine' Exs.nil ?_)) | ((with_reducible refine' Exs.cons ?z9hp ?_); (case z9hp => exact rfl)) | ((with_reducible refine' Ex.callFX ?z9hs ?z9hg ?z9hf ?z9hn ?_); (case z9hs => assumption); (case z9hg => k_is); (case z9hf => k_is); (case z9hn => kernel_rfl)) | ((with_reducible refine' Ex.none ?_)) | ((with_reducible refine' Ss.ret ?_)) | ((with_reducible refine' Ss.iteN ?_)) | ((with_reducible refine' Te.ands ?_); intro w9) | ((with_reducible refine' Te.and ?_)) | ((with_reducible refine' Ex.callB ?z9hs ?z9hg ?z9hv ?z9hm ?z9hk ?z9hd ?z9hp ?_); (case z9hs => assumption); (case z9hg => k_is); (case z9hv => boot_fast); (case z9hm => decide); (case z9hk => kernel_rfl!); (case z9hd => kernel_rfl); (case z9hp => exact rfl)) | ((with_reducible refine' Ss.asg2 ?z9hs ?z9hx ?z9hy ?z9hw ?z9hn ?_); (case z9hs => assumption); (case z9hx => kernel_rfl!); (case z9hy => kernel_rfl!); (case z9hw => (intro _; exact rfl)); (case z9hn => (intro _; exact rfl))) | ((with_reducible refine' ⟨_, _, _, _, _, _, rfl, ?z9m, ?z9d1, ?z9d2, ?_⟩); (case z9m => ksk_a2); (case z9d1 => first | ((refine' Drp.same ?_); kernel_rfl!) | ((refine' Drp.out ?z9x ?z9y); (case z9x => repeat (first | with_reducible exact Drop.head | with_reducible apply Drop.tail)); (case z9y => kernel_rfl!))); (case z9d2 => first | ((refine' Drp.same ?_); kernel_rfl!) | ((refine' Drp.out ?z9x ?z9y); (case z9x => repeat (first | with_reducible exact Drop.head | with_reducible apply Drop.tail)); (case z9y => kernel_rfl!)))) | ((with_reducible refine' Ex.gloX ?z9hs ?z9e ?z9hn ?_); (case z9hs => assumption); (case z9e => k_is); (case z9hn => kernel_rfl))))
    all_goals (with_reducible refine Fin.mk (by ki_room) (by ki_room) ?_)
    exact .mk
theorem pat_bad {w : World} : PatBadC w := by
  intro led b c b1 i ap pn
  cases ap
  cases pn
  refine RE.enter (binds := [("expr", .ref b)]) (by kas_ty) ?_
  intro G all all0 hw hs hn hS hx s0 sub
  (repeat' (first | ((with_reducible refine' Ss.raise ?z9hS ?z9hx ?z9hM ?_); (case z9hS => assumption); (case z9hx => assumption); (case z9hM => exact mk45 _)) | ((with_reducible refine' Ca.errX ?z9hn ?z9hne ?z9s0); (case z9hn => omega); (case z9hne => kernel_rfl!); (case z9s0 => k_units)) | ((with_reducible refine' Ex.attrX ?z9hs ?z9hv ?z9hn ?z9m1 ?z9m2 ?z9hD ?z9hl ?z9hh ?_); (case z9hs => assumption); (case z9hv => ksk_a2); (case z9hn => kernel_rfl); (case z9m1 => ksk_a2); (case z9m2 => ksk_a2); (case z9hD => kernel_rfl!); (case z9hl => k_get); (case z9hh => first | exact rfl | k_handed)) | ((with_reducible refine' Ga.node ?z9m1 ?z9m2 ?z9hD ?z9hx ?z9hl ?z9hv ?_); (case z9m1 => ksk_a2); (case z9m2 => ksk_a2); (case z9hD => kernel_rfl!); (case z9hx => kernel_rfl!); (case z9hl => k_get); (case z9hv => first | exact rfl | k_handed)) | ((with_reducible refine' Te.plain ?z9ht ?_); (case z9ht => (intro _ _; exact rfl))) | (with_reducible refine' ⟨_, rfl, ?_⟩) | ((with_reducible refine' Ss.isiN ?z9hs ?z9hv ?z9hn ?z9hg ?z9m1 ?z9m2 ?z9hD ?_); (case z9hs => assumption); (case z9hv => ksk_a2); (case z9hn => kernel_rfl); (case z9hg => k_is); (case z9m1 => ksk_a2); (case z9m2 => ksk_a2); (case z9hD => kernel_rfl!)) | ((with_reducible refine' Te.isiX false ?z9hs ?z9hv ?z9hn ?z9hg ?z9m1 ?z9m2 ?z9hD ?_); (case z9hs => assumption); (case z9hv => ksk_a2); (case z9hn => kernel_rfl); (case z9hg => k_is); (case z9m1 => ksk_a2); (case z9m2 => ksk_a2); (case z9hD => kernel_rfl!)) | ((with_reducible refine' Te.isiX true ?z9hs ?z9hv ?z9hn ?z9hg ?z9m1 ?z9m2 ?z9hD ?_); (case z9hs => assumption); (case z9hv => ksk_a2); (case z9hn => kernel_rfl); (case z9hg => k_is); (case z9m1 => ksk_a2); (case z9m2 => ksk_a2); (case z9hD => kernel_rfl!)) | ((with_reducible refine' Ca.isi ?z9m1 ?z9m2 ?z9hD ?z9hC false ?z9hb ?_); (case z9m1 => ksk_a2); (case z9m2 => ksk_a2); (case z9hD => kernel_rfl!); (case z9hC => kernel_rfl!); (case z9hb => kernel_rfl!)) | ((with_reducible refine' Ca.isi ?z9m1 ?z9m2 ?z9hD ?z9hC true ?z9hb ?_); (case z9m1 => ksk_a2); (case z9m2 => ksk_a2); (case z9hD => kernel_rfl!); (case z9hC => kernel_rfl!); (case z9hb => kernel_rfl!)) | ((with_reducible refine' Ca.isiA ?z9m1 ?z9m2 ?z9mt ?z9hD false ?z9hb ?_); (case z9m1 => ksk_a2); (case z9m2 => ksk_a2); (case z9mt => ksk_a2); (case z9hD => kernel_rfl!); (case z9hb => kernel_rfl!)) | ((with_reducible refine' Ca.isiA ?z9m1 ?z9m2 ?z9mt ?z9hD true ?z9hb ?_); (case z9m1 => ksk_a2); (case z9m2 => ksk_a2); (case z9mt => ksk_a2); (case z9hD => kernel_rfl!); (case z9hb => kernel_rfl!)) | ((with_reducible refine' Ca.isiT ?z9m1 ?z9m2 ?z9mt ?z9hD ?_); (case z9m1 => ksk_a2); (case z9m2 => ksk_a2); (case z9mt => ksk_a2); (case z9hD => kernel_rfl!)) | ((with_reducible refine' Ca.inl1 (f := 784) "expr" ?z9hw ?z9H ?z9hn ?_); (case z9hw => assumption); (case z9H => kas_ty); (case z9hn => omega); intro G9 w9 s9 k9 c9 x9 bb9; (try replace c9 := c9.trans (by assumption)); (try replace x9 := x9.trans (by assumption))) | ((with_reducible refine' Te.notM ?_)) | ((with_reducible refine' Ss.while ?_)) | ((with_reducible refine' Wh.turn ?_)) | ((with_reducible refine' Gm.list ?z9m PySem.F.slot_list_append PySem.F.type_list_append ?_); (case z9m => ksk_a2)) | ((with_reducible refine' Gm.list ?z9m PySem.F.slot_list_reverse PySem.F.type_list_reverse ?_); (case z9m => ksk_a2)) | ((with_reducible refine' Ca.appL ?z9m ?z9hs ?z9hz ⟨_, ?z9U, ?_⟩); (case z9m => ksk_a2); (case z9hs => (repeat with_reducible apply Snoc.cons); with_reducible exact Snoc.nil); (case z9hz => exact rfl); (case z9U => ksk_a1)) | ((with_reducible refine' Cw.bi0 ?_)) | ((with_reducible refine' Cw.b1 ?z9hp ?_); (case z9hp => exact rfl)) | ((with_reducible refine' Exs.locX ?z9hs ?z9hv ?z9hn ?_); (case z9hs => assumption); (case z9hv => ksk_a2); (case z9hn => kernel_rfl)) | ((with_reducible refine' Exs.nil ?_)) | ((with_reducible refine' Exs.str ?_); intro t9) | ((with_reducible refine' Exs.cons ?z9hp ?_); (case z9hp => exact rfl)) | ((with_reducible refine' Ex.locX ?z9hs ?z9hv ?z9hn ?_); (case z9hs => assumption); (case z9hv => ksk_a2); (case z9hn => kernel_rfl)) | ((with_reducible refine' Ex.callFX ?z9hs ?z9hg ?z9hf ?z9hn ?_); (case z9hs => assumption); (case z9hg => k_is); (case z9hf => k_is); (case z9hn => kernel_rfl)) | ((with_reducible refine' Ex.tup ?z9hz ?_); (case z9hz => exact rfl)) | ((with_reducible refine' Ex.lst ?z9hz ?_); (case z9hz => exact rfl)) | ((with_reducible refine' Ss.iteR ?_)) | ((with_reducible refine' Ss.iteN ?_)) | ((with_reducible refine' Ss.asgU ?z9hs ?z9hk ?z9hw ?z9hdr ?z9hx ?_); (case z9hs => assumption); (case z9hk => kernel_rfl!); (case z9hw => (intro _; exact rfl)); (case z9hdr => repeat (first | with_reducible exact Drop.head | with_reducible apply Drop.tail)); (case z9hx => kernel_rfl!)) | ((with_reducible refine' Ss.expr ?z9hw ?_); (case z9hw => (intro _; exact rfl))) | ((with_reducible refine' Ss.nil ?_)) | ((with_reducible refine' Te.ands ?_); intro w9) | ((with_reducible refine' Te.and ?_)) | ((with_reducible refine' Ex.meth ?z9he ?_); (case z9he => exact rfl)) | ((with_reducible refine' Ex.callB ?z9hs ?z9hg ?z9hv ?z9hm ?z9hk ?z9hd ?z9hp ?_); (case z9hs => assumption); (case z9hg => k_is); (case z9hv => boot_fast); (case z9hm => decide); (case z9hk => kernel_rfl!); (case z9hd => kernel_rfl); (case z9hp => exact rfl)) | ((with_reducible refine' Ss.asg2s ?z9hs ?z9hx ?z9hy ?z9hw ?z9hn ?_); (case z9hs => assumption); (case z9hx => kernel_rfl!); (case z9hy => kernel_rfl!); (case z9hw => (intro _; exact rfl)); (case z9hn => (intro _ _ _ _ _; kernel_rfl!))) | ((with_reducible refine' ⟨_, _, _, _, _, _, rfl, ?z9m, ?z9d1, ?z9d2, ?_⟩); (case z9m => ksk_a2); (case z9d1 => first | ((refine' Drp.same ?_); kernel_rfl!) | ((refine' Drp.out ?z9x ?z9y); (case z9x => repeat (first | with_reducible exact Drop.head | with_reducible apply Drop.tail)); (case z9y => kernel_rfl!))); (case z9d2 => first | ((refine' Drp.same ?_); kernel_rfl!) | ((refine' Drp.out ?z9x ?z9y); (case z9x => repeat (first | with_reducible exact Drop.head | with_reducible apply Drop.tail)); (case z9y => kernel_rfl!)))) | ((with_reducible refine' Ex.gloX ?z9hs ?z9e ?z9hn ?_); (case z9hs => assumption); (case z9e => k_is); (case z9hn => kernel_rfl)) | (with_reducible intro a9)))
theorem bound_fn {w : World} (Mk : Mks w) (Fl : FLeftC w) : ∀ {led : Led} {a : Addr} {x : Str} {ps : List PE} {sd pl : Value}, LeftIn led a (.fn x ps) → OkAll ps → RD w 90 852 [.ref a, sd, pl] led (O_bfn x ps sd pl) := by
  intro led b x ps sd pl li ok
  refine RD.enter (binds := [("left", .ref b), ("rhs", sd), ("place", pl)]) (by kas_ty) ?_
  intro G all hw hs hn sub
  (repeat' (first | ((with_reducible refine' Ca.rd ?z9hw ?z9hn ?z9C ?z9sb ?_); (case z9C => first | with_reducible exact FLeftC.fn Fl li ok | with_reducible exact FLeftC.pat Fl li); (case z9hw => assumption); (case z9hn => first | assumption | exact Nat.le_trans (Nat.le_of_ble_eq_true rfl) (by assumption) | omega); (case z9sb => k_units); intro v9 tl9 sb9 o9; cases o9) | ((with_reducible refine' Ca.rd ?z9hw ?z9hn ?z9C ?z9sb ?_); (case z9C => first | with_reducible exact PatAll.use Pa (by assumption)); (case z9hw => assumption); (case z9hn => first | assumption | exact Nat.le_trans (Nat.le_of_ble_eq_true rfl) (by assumption) | omega); (case z9sb => k_units); intro v9 tl9 sb9 o9; cases o9) | ((with_reducible refine' Ca.i2 ?z9hw ?z9hn ?z9C ?_); (case z9C => first | with_reducible exact Mk.c_clause _ _ _); (case z9hw => assumption); (case z9hn => first | assumption | exact Nat.le_trans (Nat.le_of_ble_eq_true rfl) (by assumption) | omega); intro tl9 a9 d9 n9 h09 h19 h29 t09 t19 t29 m9 m9) | ((with_reducible refine' Ca.l2 ?z9hw ?z9hn ?z9C ?_); (case z9C => first | with_reducible exact Mk.c_funbind _ _ _ | with_reducible exact Mk.c_patbind _ _ _); (case z9hw => assumption); (case z9hn => first | assumption | exact Nat.le_trans (Nat.le_of_ble_eq_true rfl) (by assumption) | omega); intro tl9 a9 d9 n9 h09 h19 h29 h39 t09 t19 t29 t39 u9 m9 m9) | ((with_reducible refine' Exs.locX ?z9hs ?z9hv ?z9hn ?_); (case z9hs => assumption); (case z9hv => ksk_a2); (case z9hn => kernel_rfl)) | ((with_reducible refine' Exs.nil ?_)) | ((with_reducible refine' Exs.cons ?z9hp ?_); (case z9hp => exact rfl)) | ((with_reducible refine' Ex.locX ?z9hs ?z9hv ?z9hn ?_); (case z9hs => assumption); (case z9hv => ksk_a2); (case z9hn => kernel_rfl)) | ((with_reducible refine' Ex.callFX ?z9hs ?z9hg ?z9hf ?z9hn ?_); (case z9hs => assumption); (case z9hg => k_is); (case z9hf => k_is); (case z9hn => kernel_rfl)) | ((with_reducible refine' Ex.none ?_)) | ((with_reducible refine' Ex.lst ?z9hz ?_); (case z9hz => exact rfl)) | ((with_reducible refine' Ss.ret ?_)) | ((with_reducible refine' Ss.iteR ?_)) | ((with_reducible refine' Ss.asg ?z9hs ?z9hk ?z9hw ?z9hx ?_); (case z9hs => assumption); (case z9hk => kernel_rfl!); (case z9hw => (intro _; exact rfl)); (case z9hx => kernel_rfl!)) | ((with_reducible refine' Te.cmp ?z9hm ?_); (case z9hm => exact rfl)) | ((with_reducible refine' Cm.isRN ?_)) | ((with_reducible refine' Cm.isNN ?_)) | ((with_reducible refine' Ex.itemX ?z9hs ?z9hv ?z9hn ?z9m ?z9ho ?z9hi ?z9hx ?_); (case z9hs => assumption); (case z9hv => ksk_a2); (case z9hn => kernel_rfl); (case z9m => ksk_a2); (case z9ho => first | with_reducible exact SeqO.list | with_reducible exact SeqO.pair | with_reducible exact SeqO.tup); (case z9hi => kernel_rfl); (case z9hx => first | exact rfl | assumption)) | (with_reducible intro a9)))
  all_goals (with_reducible refine Fin.mk (by ki_room) (by ki_room) ?_)
  exact .mk (by ksk_a2) (by ksk_a2) (by ksk_a2) (by ksk_a2) (by ksk_a2) (by ksk_a2) (by (refine PatAllIn.mono (by assumption) ?s9; (case s9 => k_units)))
theorem bound_pat {w : World} (Mk : Mks w) (Fl : FLeftC w) (Pa : PatAll w) : ∀ {led : Led} {a : Addr} {p : PE} {sd pl : Value}, LeftIn led a (.pat p) → Ok p → RD w 90 852 [.ref a, sd, pl] led (O_bpat p sd pl) := by
  intro led b q sd pl li ok
  have z1 := ok.2
  have r1 := li.patCs.1
  refine RD.enter (binds := [("left", .ref b), ("rhs", sd), ("place", pl)]) (by kas_ty) ?_
  intro G all hw hs hn sub
  (repeat' (first | ((with_reducible refine' Ca.rd ?z9hw ?z9hn ?z9C ?z9sb ?_); (case z9C => first | with_reducible exact FLeftC.fn Fl li ok | with_reducible exact FLeftC.pat Fl li); (case z9hw => assumption); (case z9hn => first | assumption | exact Nat.le_trans (Nat.le_of_ble_eq_true rfl) (by assumption) | omega); (case z9sb => k_units); intro v9 tl9 sb9 o9; cases o9) | ((with_reducible refine' Ca.rd ?z9hw ?z9hn ?z9C ?z9sb ?_); (case z9C => first | with_reducible exact PatAll.use Pa (by assumption)); (case z9hw => assumption); (case z9hn => first | assumption | exact Nat.le_trans (Nat.le_of_ble_eq_true rfl) (by assumption) | omega); (case z9sb => k_units); intro v9 tl9 sb9 o9; cases o9) | ((with_reducible refine' Ca.i2 ?z9hw ?z9hn ?z9C ?_); (case z9C => first | with_reducible exact Mk.c_clause _ _ _); (case z9hw => assumption); (case z9hn => first | assumption | exact Nat.le_trans (Nat.le_of_ble_eq_true rfl) (by assumption) | omega); intro tl9 a9 d9 n9 h09 h19 h29 t09 t19 t29 m9 m9) | ((with_reducible refine' Ca.l2 ?z9hw ?z9hn ?z9C ?_); (case z9C => first | with_reducible exact Mk.c_funbind _ _ _ | with_reducible exact Mk.c_patbind _ _ _); (case z9hw => assumption); (case z9hn => first | assumption | exact Nat.le_trans (Nat.le_of_ble_eq_true rfl) (by assumption) | omega); intro tl9 a9 d9 n9 h09 h19 h29 h39 t09 t19 t29 t39 u9 m9 m9) | ((with_reducible refine' Exs.locX ?z9hs ?z9hv ?z9hn ?_); (case z9hs => assumption); (case z9hv => ksk_a2); (case z9hn => kernel_rfl)) | ((with_reducible refine' Exs.nil ?_)) | ((with_reducible refine' Exs.cons ?z9hp ?_); (case z9hp => exact rfl)) | ((with_reducible refine' Ex.locX ?z9hs ?z9hv ?z9hn ?_); (case z9hs => assumption); (case z9hv => ksk_a2); (case z9hn => kernel_rfl)) | ((with_reducible refine' Ex.callFX ?z9hs ?z9hg ?z9hf ?z9hn ?_); (case z9hs => assumption); (case z9hg => k_is); (case z9hf => k_is); (case z9hn => kernel_rfl)) | ((with_reducible refine' Ex.none ?_)) | ((with_reducible refine' Ex.lst ?z9hz ?_); (case z9hz => exact rfl)) | ((with_reducible refine' Ss.ret ?_)) | ((with_reducible refine' Ss.iteR ?_)) | ((with_reducible refine' Ss.asg ?z9hs ?z9hk ?z9hw ?z9hx ?_); (case z9hs => assumption); (case z9hk => kernel_rfl!); (case z9hw => (intro _; exact rfl)); (case z9hx => kernel_rfl!)) | ((with_reducible refine' Te.cmp ?z9hm ?_); (case z9hm => exact rfl)) | ((with_reducible refine' Cm.isRN ?_)) | ((with_reducible refine' Cm.isNN ?_)) | ((with_reducible refine' Ex.itemX ?z9hs ?z9hv ?z9hn ?z9m ?z9ho ?z9hi ?z9hx ?_); (case z9hs => assumption); (case z9hv => ksk_a2); (case z9hn => kernel_rfl); (case z9m => ksk_a2); (case z9ho => first | with_reducible exact SeqO.list | with_reducible exact SeqO.pair | with_reducible exact SeqO.tup); (case z9hi => kernel_rfl); (case z9hx => first | exact rfl | assumption)) | (with_reducible intro a9)))
  all_goals (with_reducible refine Fin.mk (by ki_room) (by ki_room) ?_)
  exact .mk (by ksk_a2) (by ksk_a2) (by (refine PatIn.mono (by assumption) ?s9; (case s9 => k_units)))
theorem bound_bad {w : World} (Fl : FLeftC w) : ∀ {led : Led} {a : Addr} {sd pl : Value}, LeftIn led a .bad → RE w 90 852 [.ref a, sd, pl] led := by
  intro led b sd pl li
  refine RE.enter (binds := [("left", .ref b), ("rhs", sd), ("place", pl)]) (by kas_ty) ?_
  intro G all all0 hw hs hn hS hx s0 sub
  (repeat' (first | ((with_reducible refine' Ca.re ?z9hw ?z9hn ?z9hS ?z9hx ?z9C ?z9s0 ?z9sb); (case z9C => first | with_reducible exact FLeftC.bad Fl li | with_reducible exact PatBadC.use Pb ap pn); (case z9hw => assumption); (case z9hn => first | assumption | exact Nat.le_trans (Nat.le_of_ble_eq_true rfl) (by assumption) | omega); (case z9hS => assumption); (case z9hx => assumption); (case z9s0 => k_units); (case z9sb => k_units)) | ((with_reducible refine' Ca.rd ?z9hw ?z9hn ?z9C ?z9sb ?_); (case z9C => first | with_reducible exact FLeftC.none0 Fl li); (case z9hw => assumption); (case z9hn => first | assumption | exact Nat.le_trans (Nat.le_of_ble_eq_true rfl) (by assumption) | omega); (case z9sb => k_units); intro v9 tl9 sb9 o9; cases o9) | ((with_reducible refine' Exs.locX ?z9hs ?z9hv ?z9hn ?_); (case z9hs => assumption); (case z9hv => ksk_a2); (case z9hn => kernel_rfl)) | ((with_reducible refine' Exs.nil ?_)) | ((with_reducible refine' Exs.cons ?z9hp ?_); (case z9hp => exact rfl)) | ((with_reducible refine' Ex.locX ?z9hs ?z9hv ?z9hn ?_); (case z9hs => assumption); (case z9hv => ksk_a2); (case z9hn => kernel_rfl)) | ((with_reducible refine' Ex.callFX ?z9hs ?z9hg ?z9hf ?z9hn ?_); (case z9hs => assumption); (case z9hg => k_is); (case z9hf => k_is); (case z9hn => kernel_rfl)) | ((with_reducible refine' Ex.none ?_)) | ((with_reducible refine' Ss.iteR ?_)) | ((with_reducible refine' Ss.asg ?z9hs ?z9hk ?z9hw ?z9hx ?_); (case z9hs => assumption); (case z9hk => kernel_rfl!); (case z9hw => (intro _; exact rfl)); (case z9hx => kernel_rfl!)) | ((with_reducible refine' Te.cmp ?z9hm ?_); (case z9hm => exact rfl)) | ((with_reducible refine' Cm.isNN ?_))))
theorem bound_none0 {w : World} (Fl : FLeftC w) (Pb : PatBadC w) : ∀ {led : Led} {a : Addr} {sd pl : Value}, LeftIn led a .none0 → RE w 90 852 [.ref a, sd, pl] led := by
  intro led b sd pl li
  obtain ⟨c, b1, i, x, ap, pn, bi⟩ := li.none0Cs
  refine RE.enter (binds := [("left", .ref b), ("rhs", sd), ("place", pl)]) (by kas_ty) ?_
  intro G all all0 hw hs hn hS hx s0 sub
  (repeat' (first | ((with_reducible refine' Ca.re ?z9hw ?z9hn ?z9hS ?z9hx ?z9C ?z9s0 ?z9sb); (case z9C => first | with_reducible exact FLeftC.bad Fl li | with_reducible exact PatBadC.use Pb ap pn); (case z9hw => assumption); (case z9hn => first | assumption | exact Nat.le_trans (Nat.le_of_ble_eq_true rfl) (by assumption) | omega); (case z9hS => assumption); (case z9hx => assumption); (case z9s0 => k_units); (case z9sb => k_units)) | ((with_reducible refine' Ca.rd ?z9hw ?z9hn ?z9C ?z9sb ?_); (case z9C => first | with_reducible exact FLeftC.none0 Fl li); (case z9hw => assumption); (case z9hn => first | assumption | exact Nat.le_trans (Nat.le_of_ble_eq_true rfl) (by assumption) | omega); (case z9sb => k_units); intro v9 tl9 sb9 o9; cases o9) | ((with_reducible refine' Exs.locX ?z9hs ?z9hv ?z9hn ?_); (case z9hs => assumption); (case z9hv => ksk_a2); (case z9hn => kernel_rfl)) | ((with_reducible refine' Exs.nil ?_)) | ((with_reducible refine' Exs.cons ?z9hp ?_); (case z9hp => exact rfl)) | ((with_reducible refine' Ex.locX ?z9hs ?z9hv ?z9hn ?_); (case z9hs => assumption); (case z9hv => ksk_a2); (case z9hn => kernel_rfl)) | ((with_reducible refine' Ex.callFX ?z9hs ?z9hg ?z9hf ?z9hn ?_); (case z9hs => assumption); (case z9hg => k_is); (case z9hf => k_is); (case z9hn => kernel_rfl)) | ((with_reducible refine' Ex.none ?_)) | ((with_reducible refine' Ss.iteR ?_)) | ((with_reducible refine' Ss.asg ?z9hs ?z9hk ?z9hw ?z9hx ?_); (case z9hs => assumption); (case z9hk => kernel_rfl!); (case z9hw => (intro _; exact rfl)); (case z9hx => kernel_rfl!)) | ((with_reducible refine' Te.cmp ?z9hm ?_); (case z9hm => exact rfl)) | ((with_reducible refine' Cm.isNN ?_))))
theorem lit_row {w : World} {led : Led} {b d : Addr} {n : Nat} {h1 h2 h3 : Int} {t1 t2 t3 tk ti : Tok} {k : Str} {i : Int} (m1 : (b, instObj 306 d) ∈ led) (m2 : (d, dictOf [ent h1 "place" t1 .none, ent h2 "kind" t2 (.str k tk), ent h3 "value" t3 (.int i ti)] n) ∈ led) : RD w 3 303 [.ref b] led (O_row (.tuple [.str "lit", .str k, .int i])) := by
  refine RD.enter (binds := [("self", .ref b)]) (by kas_ty) ?_
  intro G all hw hs hn sub
  (repeat' (first | ((with_reducible refine' Ex.attrX ?z9hs ?z9hv ?z9hn ?z9m1 ?z9m2 ?z9hD ?z9hl ?z9hh ?_); (case z9hs => assumption); (case z9hv => ksk_a2); (case z9hn => kernel_rfl); (case z9m1 => ksk_a2); (case z9m2 => ksk_a2); (case z9hD => kernel_rfl!); (case z9hl => k_get); (case z9hh => first | exact rfl | k_handed)) | ((with_reducible refine' Ga.node ?z9m1 ?z9m2 ?z9hD ?z9hx ?z9hl ?z9hv ?_); (case z9m1 => ksk_a2); (case z9m2 => ksk_a2); (case z9hD => kernel_rfl!); (case z9hx => kernel_rfl!); (case z9hl => k_get); (case z9hv => first | exact rfl | k_handed)) | ((with_reducible refine' Ca.rows ?z9m ?z9hz ?z9hn ?_); (case z9m => ksk_a2); (case z9hz => exact Nat.le_of_ble_eq_true rfl); (case z9hn => omega)) | ((with_reducible refine' MapC.nil ?_); (try intro D9); (try intro T9)) | ((with_reducible refine' Ex.compPR ?z9hg ?z9hf ?z9hk ?z9hd ?z9hxd ?z9hxd2 ?z9he ?z9hclos ?z9hcell ?z9hkind ?z9hnames ?z9hx ?z9hx2 ?z9hxx ?z9hfs ?_); (case z9hg => k_is); (case z9hf => k_is); (case z9hk => kernel_rfl!); (case z9hd => kernel_rfl); (case z9hxd => kernel_rfl); (case z9hxd2 => kernel_rfl); (case z9he => (intro _; exact ⟨_, rfl⟩)); (case z9hclos => exact rfl); (case z9hcell => kernel_rfl); (case z9hkind => exact rfl); (case z9hnames => kernel_rfl); (case z9hx => kernel_rfl!); (case z9hx2 => kernel_rfl!); (case z9hxx => decide); (case z9hfs => (intro _ _; exact rfl)); intro m9) | ((with_reducible refine' ⟨_, _, _, _, _, _, rfl, ?z9m, ?z9mt, ?_⟩); (case z9m => ksk_a2); (case z9mt => ksk_a2)) | ((with_reducible refine' FPair.mk ?z9hw ?z9hn ?z9C ?z9sb ?_); (case z9hw => assumption); (case z9C => exact none_row); (case z9hn => omega); (case z9sb => k_units); intro r9 tl9 sb9 o9; cases o9) | ((with_reducible refine' FRow.mk ?z9H ?z9hw ?z9hn ?z9C ?z9sb ?_); (case z9hw => assumption); (case z9C => exact lit_row (by with_reducible assumption) (by with_reducible assumption)); (case z9H => exact HasRow.of (by ksk_a2) (by ksk_a2) (by kernel_rfl!) (by kernel_rfl!)); (case z9hn => omega); (case z9sb => k_units); intro r9 tl9 sb9 o9; cases o9; intro a9; (refine' ⟨?z9m, ?_⟩; (case z9m => ksk_a2)); intro D9) | ((with_reducible refine' Ca.tupL ?z9m ?z9hz ?_); (case z9m => ksk_a2); (case z9hz => first | assumption | exact Nat.le_of_ble_eq_true rfl | (simp only [List.length_append, List.length_cons, List.length_nil]; omega) | omega); intro T9) | ((with_reducible refine' Ex.callT ?z9hs ?z9hg ?z9hv ?z9hm ?z9hk ?z9hd ?z9hp ?_); (case z9hs => assumption); (case z9hg => k_is); (case z9hv => (with_reducible exact boot_tuple)); (case z9hm => decide); (case z9hk => kernel_rfl!); (case z9hd => kernel_rfl); (case z9hp => exact rfl)) | ((with_reducible refine' Gm.row (f := 215) (HasRow.of ?z9m ?z9m2 ?z9c ?z9g) ?_); (case z9m => ksk_a2); (case z9m2 => ksk_a2); (case z9c => kernel_rfl!); (case z9g => kernel_rfl!)) | ((with_reducible refine' Cw.m0 ?z9hf ?_); (case z9hf => first | with_reducible exact keepRow _ _ | k_is)) | ((with_reducible refine' Ca.inl1 (f := 215) "self" ?z9hw ?z9H ?z9hn ?_); (case z9hw => assumption); (case z9H => kas_ty); (case z9hn => omega); intro G9 w9 s9 k9 c9 x9 bb9; (try replace c9 := c9.trans (by assumption)); (try replace x9 := x9.trans (by assumption))) | ((with_reducible refine' Exs.locX ?z9hs ?z9hv ?z9hn ?_); (case z9hs => assumption); (case z9hv => ksk_a2); (case z9hn => kernel_rfl)) | ((with_reducible refine' Exs.nil ?_)) | ((with_reducible refine' Exs.str ?_); intro t9) | ((with_reducible refine' Exs.cons ?z9hp ?_); (case z9hp => exact rfl)) | ((with_reducible refine' Ex.locX ?z9hs ?z9hv ?z9hn ?_); (case z9hs => assumption); (case z9hv => ksk_a2); (case z9hn => kernel_rfl)) | ((with_reducible refine' Ex.callFX ?z9hs ?z9hg ?z9hf ?z9hn ?_); (case z9hs => assumption); (case z9hg => k_is); (case z9hf => k_is); (case z9hn => kernel_rfl)) | ((with_reducible refine' Ex.none ?_)) | ((with_reducible refine' Ex.tup ?z9hz ?_); (case z9hz => exact rfl)) | ((with_reducible refine' Ss.ret ?_)) | ((with_reducible refine' Ss.asg ?z9hs ?z9hk ?z9hw ?z9hx ?_); (case z9hs => assumption); (case z9hk => kernel_rfl!); (case z9hw => (intro _; exact rfl)); (case z9hx => kernel_rfl!)) | ((with_reducible refine' Te.cmp ?z9hm ?_); (case z9hm => exact rfl)) | ((with_reducible refine' Cm.isNN ?_)) | ((with_reducible refine' Ex.ifexp ?_)) | ((with_reducible refine' Ex.meth ?z9he ?_); (case z9he => exact rfl)) | (with_reducible intro a9)))
  all_goals (with_reducible refine Fin.mk (by ki_room) (by ki_room) ?_)
  refine .mk ?_
  kd_in
theorem none_row {w : World} : RD w 3 54 [.none] [] O_none := by
  refine RD.enter (binds := [("node", .none)]) (by kas_ty) ?_
  intro G all hw hs hn sub
  (repeat' (first | ((with_reducible refine' Ex.attrX ?z9hs ?z9hv ?z9hn ?z9m1 ?z9m2 ?z9hD ?z9hl ?z9hh ?_); (case z9hs => assumption); (case z9hv => ksk_a2); (case z9hn => kernel_rfl); (case z9m1 => ksk_a2); (case z9m2 => ksk_a2); (case z9hD => kernel_rfl!); (case z9hl => k_get); (case z9hh => first | exact rfl | k_handed)) | ((with_reducible refine' Ga.node ?z9m1 ?z9m2 ?z9hD ?z9hx ?z9hl ?z9hv ?_); (case z9m1 => ksk_a2); (case z9m2 => ksk_a2); (case z9hD => kernel_rfl!); (case z9hx => kernel_rfl!); (case z9hl => k_get); (case z9hv => first | exact rfl | k_handed)) | ((with_reducible refine' Ca.rows ?z9m ?z9hz ?z9hn ?_); (case z9m => ksk_a2); (case z9hz => exact Nat.le_of_ble_eq_true rfl); (case z9hn => omega)) | ((with_reducible refine' MapC.nil ?_); (try intro D9); (try intro T9)) | ((with_reducible refine' Ex.compPR ?z9hg ?z9hf ?z9hk ?z9hd ?z9hxd ?z9hxd2 ?z9he ?z9hclos ?z9hcell ?z9hkind ?z9hnames ?z9hx ?z9hx2 ?z9hxx ?z9hfs ?_); (case z9hg => k_is); (case z9hf => k_is); (case z9hk => kernel_rfl!); (case z9hd => kernel_rfl); (case z9hxd => kernel_rfl); (case z9hxd2 => kernel_rfl); (case z9he => (intro _; exact ⟨_, rfl⟩)); (case z9hclos => exact rfl); (case z9hcell => kernel_rfl); (case z9hkind => exact rfl); (case z9hnames => kernel_rfl); (case z9hx => kernel_rfl!); (case z9hx2 => kernel_rfl!); (case z9hxx => decide); (case z9hfs => (intro _ _; exact rfl)); intro m9) | ((with_reducible refine' ⟨_, _, _, _, _, _, rfl, ?z9m, ?z9mt, ?_⟩); (case z9m => ksk_a2); (case z9mt => ksk_a2)) | ((with_reducible refine' FPair.mk ?z9hw ?z9hn ?z9C ?z9sb ?_); (case z9hw => assumption); (case z9C => exact none_row); (case z9hn => omega); (case z9sb => k_units); intro r9 tl9 sb9 o9; cases o9) | ((with_reducible refine' FRow.mk ?z9H ?z9hw ?z9hn ?z9C ?z9sb ?_); (case z9hw => assumption); (case z9C => exact lit_row (by with_reducible assumption) (by with_reducible assumption)); (case z9H => exact HasRow.of (by ksk_a2) (by ksk_a2) (by kernel_rfl!) (by kernel_rfl!)); (case z9hn => omega); (case z9sb => k_units); intro r9 tl9 sb9 o9; cases o9; intro a9; (refine' ⟨?z9m, ?_⟩; (case z9m => ksk_a2)); intro D9) | ((with_reducible refine' Ca.tupL ?z9m ?z9hz ?_); (case z9m => ksk_a2); (case z9hz => first | assumption | exact Nat.le_of_ble_eq_true rfl | (simp only [List.length_append, List.length_cons, List.length_nil]; omega) | omega); intro T9) | ((with_reducible refine' Ex.callT ?z9hs ?z9hg ?z9hv ?z9hm ?z9hk ?z9hd ?z9hp ?_); (case z9hs => assumption); (case z9hg => k_is); (case z9hv => (with_reducible exact boot_tuple)); (case z9hm => decide); (case z9hk => kernel_rfl!); (case z9hd => kernel_rfl); (case z9hp => exact rfl)) | ((with_reducible refine' Gm.row (f := 215) (HasRow.of ?z9m ?z9m2 ?z9c ?z9g) ?_); (case z9m => ksk_a2); (case z9m2 => ksk_a2); (case z9c => kernel_rfl!); (case z9g => kernel_rfl!)) | ((with_reducible refine' Cw.m0 ?z9hf ?_); (case z9hf => first | with_reducible exact keepRow _ _ | k_is)) | ((with_reducible refine' Ca.inl1 (f := 215) "self" ?z9hw ?z9H ?z9hn ?_); (case z9hw => assumption); (case z9H => kas_ty); (case z9hn => omega); intro G9 w9 s9 k9 c9 x9 bb9; (try replace c9 := c9.trans (by assumption)); (try replace x9 := x9.trans (by assumption))) | ((with_reducible refine' Exs.locX ?z9hs ?z9hv ?z9hn ?_); (case z9hs => assumption); (case z9hv => ksk_a2); (case z9hn => kernel_rfl)) | ((with_reducible refine' Exs.nil ?_)) | ((with_reducible refine' Exs.str ?_); intro t9) | ((with_reducible refine' Exs.cons ?z9hp ?_); (case z9hp => exact rfl)) | ((with_reducible refine' Ex.locX ?z9hs ?z9hv ?z9hn ?_); (case z9hs => assumption); (case z9hv => ksk_a2); (case z9hn => kernel_rfl)) | ((with_reducible refine' Ex.callFX ?z9hs ?z9hg ?z9hf ?z9hn ?_); (case z9hs => assumption); (case z9hg => k_is); (case z9hf => k_is); (case z9hn => kernel_rfl)) | ((with_reducible refine' Ex.none ?_)) | ((with_reducible refine' Ex.tup ?z9hz ?_); (case z9hz => exact rfl)) | ((with_reducible refine' Ss.ret ?_)) | ((with_reducible refine' Ss.asg ?z9hs ?z9hk ?z9hw ?z9hx ?_); (case z9hs => assumption); (case z9hk => kernel_rfl!); (case z9hw => (intro _; exact rfl)); (case z9hx => kernel_rfl!)) | ((with_reducible refine' Te.cmp ?z9hm ?_); (case z9hm => exact rfl)) | ((with_reducible refine' Cm.isNN ?_)) | ((with_reducible refine' Ex.ifexp ?_)) | ((with_reducible refine' Ex.meth ?z9he ?_); (case z9he => exact rfl)) | (with_reducible intro a9)))
  all_goals (with_reducible refine Fin.mk (by ki_room) (by ki_room) ?_)
  exact .mk
theorem rhs_row {w : World} : RhsRowC w := by
  intro led b R
  cases R
  refine RD.enter (binds := [("self", .ref b)]) (by kas_ty) ?_
  intro G all hw hs hn sub
  (repeat' (first | ((with_reducible refine' Ex.attrX ?z9hs ?z9hv ?z9hn ?z9m1 ?z9m2 ?z9hD ?z9hl ?z9hh ?_); (case z9hs => assumption); (case z9hv => ksk_a2); (case z9hn => kernel_rfl); (case z9m1 => ksk_a2); (case z9m2 => ksk_a2); (case z9hD => kernel_rfl!); (case z9hl => k_get); (case z9hh => first | exact rfl | k_handed)) | ((with_reducible refine' Ga.node ?z9m1 ?z9m2 ?z9hD ?z9hx ?z9hl ?z9hv ?_); (case z9m1 => ksk_a2); (case z9m2 => ksk_a2); (case z9hD => kernel_rfl!); (case z9hx => kernel_rfl!); (case z9hl => k_get); (case z9hv => first | exact rfl | k_handed)) | ((with_reducible refine' Ca.rows ?z9m ?z9hz ?z9hn ?_); (case z9m => ksk_a2); (case z9hz => exact Nat.le_of_ble_eq_true rfl); (case z9hn => omega)) | ((with_reducible refine' MapC.nil ?_); (try intro D9); (try intro T9)) | ((with_reducible refine' Ex.compPR ?z9hg ?z9hf ?z9hk ?z9hd ?z9hxd ?z9hxd2 ?z9he ?z9hclos ?z9hcell ?z9hkind ?z9hnames ?z9hx ?z9hx2 ?z9hxx ?z9hfs ?_); (case z9hg => k_is); (case z9hf => k_is); (case z9hk => kernel_rfl!); (case z9hd => kernel_rfl); (case z9hxd => kernel_rfl); (case z9hxd2 => kernel_rfl); (case z9he => (intro _; exact ⟨_, rfl⟩)); (case z9hclos => exact rfl); (case z9hcell => kernel_rfl); (case z9hkind => exact rfl); (case z9hnames => kernel_rfl); (case z9hx => kernel_rfl!); (case z9hx2 => kernel_rfl!); (case z9hxx => decide); (case z9hfs => (intro _ _; exact rfl)); intro m9) | ((with_reducible refine' ⟨_, _, _, _, _, _, rfl, ?z9m, ?z9mt, ?_⟩); (case z9m => ksk_a2); (case z9mt => ksk_a2)) | ((with_reducible refine' FPair.mk ?z9hw ?z9hn ?z9C ?z9sb ?_); (case z9hw => assumption); (case z9C => exact none_row); (case z9hn => omega); (case z9sb => k_units); intro r9 tl9 sb9 o9; cases o9) | ((with_reducible refine' FRow.mk ?z9H ?z9hw ?z9hn ?z9C ?z9sb ?_); (case z9hw => assumption); (case z9C => exact lit_row (by with_reducible assumption) (by with_reducible assumption)); (case z9H => exact HasRow.of (by ksk_a2) (by ksk_a2) (by kernel_rfl!) (by kernel_rfl!)); (case z9hn => omega); (case z9sb => k_units); intro r9 tl9 sb9 o9; cases o9; intro a9; (refine' ⟨?z9m, ?_⟩; (case z9m => ksk_a2)); intro D9) | ((with_reducible refine' Ca.tupL ?z9m ?z9hz ?_); (case z9m => ksk_a2); (case z9hz => first | assumption | exact Nat.le_of_ble_eq_true rfl | (simp only [List.length_append, List.length_cons, List.length_nil]; omega) | omega); intro T9) | ((with_reducible refine' Ex.callT ?z9hs ?z9hg ?z9hv ?z9hm ?z9hk ?z9hd ?z9hp ?_); (case z9hs => assumption); (case z9hg => k_is); (case z9hv => (with_reducible exact boot_tuple)); (case z9hm => decide); (case z9hk => kernel_rfl!); (case z9hd => kernel_rfl); (case z9hp => exact rfl)) | ((with_reducible refine' Gm.row (f := 215) (HasRow.of ?z9m ?z9m2 ?z9c ?z9g) ?_); (case z9m => ksk_a2); (case z9m2 => ksk_a2); (case z9c => kernel_rfl!); (case z9g => kernel_rfl!)) | ((with_reducible refine' Cw.m0 ?z9hf ?_); (case z9hf => first | with_reducible exact keepRow _ _ | k_is)) | ((with_reducible refine' Ca.inl1 (f := 215) "self" ?z9hw ?z9H ?z9hn ?_); (case z9hw => assumption); (case z9H => kas_ty); (case z9hn => omega); intro G9 w9 s9 k9 c9 x9 bb9; (try replace c9 := c9.trans (by assumption)); (try replace x9 := x9.trans (by assumption))) | ((with_reducible refine' Exs.locX ?z9hs ?z9hv ?z9hn ?_); (case z9hs => assumption); (case z9hv => ksk_a2); (case z9hn => kernel_rfl)) | ((with_reducible refine' Exs.nil ?_)) | ((with_reducible refine' Exs.str ?_); intro t9) | ((with_reducible refine' Exs.cons ?z9hp ?_); (case z9hp => exact rfl)) | ((with_reducible refine' Ex.locX ?z9hs ?z9hv ?z9hn ?_); (case z9hs => assumption); (case z9hv => ksk_a2); (case z9hn => kernel_rfl)) | ((with_reducible refine' Ex.callFX ?z9hs ?z9hg ?z9hf ?z9hn ?_); (case z9hs => assumption); (case z9hg => k_is); (case z9hf => k_is); (case z9hn => kernel_rfl)) | ((with_reducible refine' Ex.none ?_)) | ((with_reducible refine' Ex.tup ?z9hz ?_); (case z9hz => exact rfl)) | ((with_reducible refine' Ss.ret ?_)) | ((with_reducible refine' Ss.asg ?z9hs ?z9hk ?z9hw ?z9hx ?_); (case z9hs => assumption); (case z9hk => kernel_rfl!); (case z9hw => (intro _; exact rfl)); (case z9hx => kernel_rfl!)) | ((with_reducible refine' Te.cmp ?z9hm ?_); (case z9hm => exact rfl)) | ((with_reducible refine' Cm.isNN ?_)) | ((with_reducible refine' Ex.ifexp ?_)) | ((with_reducible refine' Ex.meth ?z9he ?_); (case z9he => exact rfl)) | (with_reducible intro a9)))
  all_goals (with_reducible refine Fin.mk (by ki_room) (by ki_room) ?_)
  (refine .mk ?_; dsimp only [rhsDat, retOf]; kd_in)
theorem nobinds_c {w : World} (Mk : Mks w) : NoBindsC w := by
  refine RD.enter (binds := []) (by kas_ty) ?_
  intro G all hw hs hn sub
  (repeat' (first | ((with_reducible refine' Ca.l2 ?z9hw ?z9hn ?z9C ?_); (case z9C => first | with_reducible exact Mk.c_binds _ _); (case z9hw => assumption); (case z9hn => first | assumption | exact Nat.le_trans (Nat.le_of_ble_eq_true rfl) (by assumption) | omega); intro tl9 a9 d9 n9 h09 h19 h29 h39 t09 t19 t29 t39 u9 m9 m9) | ((with_reducible refine' Exs.nil ?_)) | ((with_reducible refine' Exs.cons ?z9hp ?_); (case z9hp => exact rfl)) | ((with_reducible refine' Ex.callFX ?z9hs ?z9hg ?z9hf ?z9hn ?_); (case z9hs => assumption); (case z9hg => k_is); (case z9hf => k_is); (case z9hn => kernel_rfl)) | ((with_reducible refine' Ex.lst ?z9hz ?_); (case z9hz => exact rfl)) | ((with_reducible refine' Ss.ret ?_)) | (with_reducible intro a9)))
  all_goals (with_reducible refine Fin.mk (by ki_room) (by ki_room) ?_)
  exact .mk (by ksk_a2) (by ksk_a2) (by ksk_a2) (by ksk_a2)
theorem take_c {w : World} : TakeC w := by
  intro S top tt ht ht'
  refine BX.enter (binds := [("source", .ref S), ("top", .int top tt)]) (by kas_ty) ?_
  intro G all hw hs hn hS sub
  (repeat' (first | ((with_reducible refine' Ex.callT ?z9hs ?z9hg ?z9hv ?z9hm ?z9hk ?z9hd ?z9hp ?_); (case z9hs => assumption); (case z9hg => k_is); (case z9hv => (with_reducible exact PyProof.Rows.boot_int)); (case z9hm => decide); (case z9hk => kernel_rfl!); (case z9hd => kernel_rfl); (case z9hp => exact rfl)) | ((with_reducible refine' Sb.s0 ?z9hS ?z9hs ?_); (case z9hS => assumption); (case z9hs => exact ⟨_, rfl⟩); intro x9 t9 p9) | ((with_reducible refine' Sb.s1 ?z9hS ?z9hs ?_); (case z9hS => assumption); (case z9hs => exact ⟨_, rfl⟩); intro x9 t9 p9 p9') | ((with_reducible refine' Ss.setS ?z9hw ?z9hS ?_); (case z9hw => (intro _; exact rfl)); (case z9hS => assumption)) | ((with_reducible refine' ⟨rfl, .inl ⟨_, _, _, rfl, rfl, ?z9p⟩, ?_⟩); (case z9p => exact fdiv_nn (by assumption) (by omega))) | ((with_reducible refine' ⟨rfl, .inr ⟨_, _, _, rfl, rfl, ?z9p, ?z9r⟩, ?_⟩); (case z9p => exact fmod_lo (by decide)); (case z9r => exact fmod_hi (by decide))) | ((with_reducible refine' Cm.gtA ?_); (rintro (_ | _) c9)) | ((with_reducible refine' Bi.fdivI ?z9hb ?z9hs ?_); (case z9hb => omega); (case z9hs => omega); intro t9) | ((with_reducible refine' Bi.mulI ?z9h0 ?z9h1 ?_); (case z9h0 => first | assumption | decide); (case z9h1 => first | assumption | decide); intro t9) | ((with_reducible refine' Bi.modI ?z9hb ?_); (case z9hb => omega); intro t9) | ((with_reducible refine' Ca.intI ?_)) | ((with_reducible refine' Exs.nil ?_)) | ((with_reducible refine' Exs.cons ?z9hp ?_); (case z9hp => exact rfl)) | ((with_reducible refine' Ex.locX ?z9hs ?z9hv ?z9hn ?_); (case z9hs => assumption); (case z9hv => ksk_a2); (case z9hn => kernel_rfl)) | ((with_reducible refine' Ex.int ?_); intro t9) | ((with_reducible refine' Ss.ret ?_)) | ((with_reducible refine' Ss.iteN ?_)) | ((with_reducible refine' Ss.asg ?z9hs ?z9hk ?z9hw ?z9hx ?_); (case z9hs => assumption); (case z9hk => kernel_rfl!); (case z9hw => (intro _; exact rfl)); (case z9hx => kernel_rfl!)) | ((with_reducible refine' Te.cmp ?z9hm ?_); (case z9hm => exact rfl)) | ((with_reducible refine' Ex.bin ?_)) | ((with_reducible refine' Ex.sub ?_)) | ((with_reducible refine' Bi.addI ?_); intro t9)))
  all_goals with_reducible refine Fin.mkB (by ki_room) ?_
  all_goals exact .mk (fmod_lo (by omega)) (fmod_hi (by omega))
theorem pool_c {w : World} : PoolC w := by
  intro G ρ led l vs ns t R hw hk hl hi hz ret
  cases hi
  · refine Ca.inl2 "script" "k" hw (by kas_ty) hk ?_
    intro G' w9 s9 k9 c9 x9 b9
    rw [← b9] at hl
    (repeat' (first | ((with_reducible refine' Ex.callT ?z9hs ?z9hg ?z9hv ?z9hm ?z9hk ?z9hd ?z9hp ?_); (case z9hs => assumption); (case z9hg => k_is); (case z9hv => (with_reducible exact PyProof.Rows.boot_int)); (case z9hm => decide); (case z9hk => kernel_rfl!); (case z9hd => kernel_rfl); (case z9hp => exact rfl)) | ((with_reducible refine' Ex.callB ?z9hs ?z9hg ?z9hv ?z9hm ?z9hk ?z9hd ?z9hp ?_); (case z9hs => assumption); (case z9hg => k_is); (case z9hv => (with_reducible exact PyProof.Rows.boot_max)); (case z9hm => decide); (case z9hk => kernel_rfl!); (case z9hd => kernel_rfl); (case z9hp => exact rfl)) | ((with_reducible refine' Ca.lenB ?z9hl ?z9hz ?_); (case z9hl => assumption); (case z9hz => assumption); intro t9) | ((with_reducible refine' Sb.itemB ?z9hl ?z9hs ?_); (case z9hl => assumption); (case z9hs => exact ⟨_, rfl⟩)) | ((with_reducible refine' Ca.maxP ?z9hb ?_); (case z9hb => exact rfl); intro n9 t9 p9) | ((with_reducible refine' Cm.geA ?_); intro c9) | ((with_reducible refine' Bi.mulB ?z9ha ?_); (case z9ha => assumption); intro n9 t9 p9) | ((with_reducible refine' Bi.pow18 ?_); intro t9) | ((with_reducible refine' Ca.intB ?_); intro t9) | ((with_reducible refine' Ex.cmp ?z9hm ?_); (case z9hm => exact rfl)) | ((with_reducible refine' Bi.subI ?_); intro t9) | ((with_reducible refine' Bi.fdivI ?z9hb ?z9hs ?_); (case z9hb => omega); (case z9hs => omega); intro t9) | ((with_reducible refine' Bi.mulI ?z9h0 ?z9h1 ?_); (case z9h0 => first | assumption | decide); (case z9h1 => first | assumption | decide); intro t9) | ((with_reducible refine' Bi.modI ?z9hb ?_); (case z9hb => omega); intro t9) | ((with_reducible refine' Ca.intI ?_)) | ((with_reducible refine' Exs.locX ?z9hs ?z9hv ?z9hn ?_); (case z9hs => assumption); (case z9hv => ksk_a2); (case z9hn => kernel_rfl)) | ((with_reducible refine' Exs.nil ?_)) | ((with_reducible refine' Exs.cons ?z9hp ?_); (case z9hp => exact rfl)) | ((with_reducible refine' Ex.locX ?z9hs ?z9hv ?z9hn ?_); (case z9hs => assumption); (case z9hv => ksk_a2); (case z9hn => kernel_rfl)) | ((with_reducible refine' Ex.int ?_); intro t9) | ((with_reducible refine' Ex.lst ?z9hz ?_); (case z9hz => exact rfl)) | ((with_reducible refine' Ss.ret ?_)) | ((with_reducible refine' Ss.iteN ?_)) | ((with_reducible refine' Ss.asg ?z9hs ?z9hk ?z9hw ?z9hx ?_); (case z9hs => assumption); (case z9hk => kernel_rfl!); (case z9hw => (intro _; exact rfl)); (case z9hx => kernel_rfl!)) | ((with_reducible refine' Ss.asgU ?z9hs ?z9hk ?z9hw ?z9hdr ?z9hx ?_); (case z9hs => assumption); (case z9hk => kernel_rfl!); (case z9hw => (intro _; exact rfl)); (case z9hdr => repeat (first | with_reducible exact Drop.head | with_reducible apply Drop.tail)); (case z9hx => kernel_rfl!)) | ((with_reducible refine' Ss.nil ?_)) | ((with_reducible refine' Te.cmp ?z9hm ?_); (case z9hm => exact rfl)) | ((with_reducible refine' Cm.ltI (c := true) ?z9hc ?_); (case z9hc => first | assumption | kernel_rfl!)) | ((with_reducible refine' Cm.ltI (c := false) ?z9hc ?_); (case z9hc => first | assumption | kernel_rfl!)) | ((with_reducible refine' Ex.bin ?_)) | ((with_reducible refine' Ex.sub ?_)) | ((with_reducible refine' Ex.callB ?z9hs ?z9hg ?z9hv ?z9hm ?z9hk ?z9hd ?z9hp ?_); (case z9hs => assumption); (case z9hg => k_is); (case z9hv => boot_fast); (case z9hm => decide); (case z9hk => kernel_rfl!); (case z9hd => kernel_rfl); (case z9hp => exact rfl)) | ((with_reducible refine' Ex.neg ?_); intro t9) | ((with_reducible refine' Bi.addI ?_); intro t9) | (with_reducible intro a9)))
    exact ret _ _ _ _ _ _ (by assumption) (fmod_lo (by decide)) (fmod_hi (by decide))
  · rename_i i8 t8 vs8 ns8 h8
    have hl9 : decide ((0 : Int) < (((Value.int i8 t8 :: vs8 : List Value).length : Nat) : Int)) = true := decide_eq_true (by rw [List.length_cons]; omega)
    refine Ca.inl2 "script" "k" hw (by kas_ty) hk ?_
    intro G' w9 s9 k9 c9 x9 b9
    rw [← b9] at hl
    (repeat' (first | ((with_reducible refine' Ex.callT ?z9hs ?z9hg ?z9hv ?z9hm ?z9hk ?z9hd ?z9hp ?_); (case z9hs => assumption); (case z9hg => k_is); (case z9hv => (with_reducible exact PyProof.Rows.boot_int)); (case z9hm => decide); (case z9hk => kernel_rfl!); (case z9hd => kernel_rfl); (case z9hp => exact rfl)) | ((with_reducible refine' Ex.callB ?z9hs ?z9hg ?z9hv ?z9hm ?z9hk ?z9hd ?z9hp ?_); (case z9hs => assumption); (case z9hg => k_is); (case z9hv => (with_reducible exact PyProof.Rows.boot_max)); (case z9hm => decide); (case z9hk => kernel_rfl!); (case z9hd => kernel_rfl); (case z9hp => exact rfl)) | ((with_reducible refine' Ca.lenB ?z9hl ?z9hz ?_); (case z9hl => assumption); (case z9hz => assumption); intro t9) | ((with_reducible refine' Sb.itemB ?z9hl ?z9hs ?_); (case z9hl => assumption); (case z9hs => exact ⟨_, rfl⟩)) | ((with_reducible refine' Ca.maxP ?z9hb ?_); (case z9hb => exact rfl); intro n9 t9 p9) | ((with_reducible refine' Cm.geA ?_); intro c9) | ((with_reducible refine' Bi.mulB ?z9ha ?_); (case z9ha => assumption); intro n9 t9 p9) | ((with_reducible refine' Bi.pow18 ?_); intro t9) | ((with_reducible refine' Ca.intB ?_); intro t9) | ((with_reducible refine' Ex.cmp ?z9hm ?_); (case z9hm => exact rfl)) | ((with_reducible refine' Bi.subI ?_); intro t9) | ((with_reducible refine' Bi.fdivI ?z9hb ?z9hs ?_); (case z9hb => omega); (case z9hs => omega); intro t9) | ((with_reducible refine' Bi.mulI ?z9h0 ?z9h1 ?_); (case z9h0 => first | assumption | decide); (case z9h1 => first | assumption | decide); intro t9) | ((with_reducible refine' Bi.modI ?z9hb ?_); (case z9hb => omega); intro t9) | ((with_reducible refine' Ca.intI ?_)) | ((with_reducible refine' Exs.locX ?z9hs ?z9hv ?z9hn ?_); (case z9hs => assumption); (case z9hv => ksk_a2); (case z9hn => kernel_rfl)) | ((with_reducible refine' Exs.nil ?_)) | ((with_reducible refine' Exs.cons ?z9hp ?_); (case z9hp => exact rfl)) | ((with_reducible refine' Ex.locX ?z9hs ?z9hv ?z9hn ?_); (case z9hs => assumption); (case z9hv => ksk_a2); (case z9hn => kernel_rfl)) | ((with_reducible refine' Ex.int ?_); intro t9) | ((with_reducible refine' Ex.lst ?z9hz ?_); (case z9hz => exact rfl)) | ((with_reducible refine' Ss.ret ?_)) | ((with_reducible refine' Ss.iteN ?_)) | ((with_reducible refine' Ss.asg ?z9hs ?z9hk ?z9hw ?z9hx ?_); (case z9hs => assumption); (case z9hk => kernel_rfl!); (case z9hw => (intro _; exact rfl)); (case z9hx => kernel_rfl!)) | ((with_reducible refine' Ss.asgU ?z9hs ?z9hk ?z9hw ?z9hdr ?z9hx ?_); (case z9hs => assumption); (case z9hk => kernel_rfl!); (case z9hw => (intro _; exact rfl)); (case z9hdr => repeat (first | with_reducible exact Drop.head | with_reducible apply Drop.tail)); (case z9hx => kernel_rfl!)) | ((with_reducible refine' Ss.nil ?_)) | ((with_reducible refine' Te.cmp ?z9hm ?_); (case z9hm => exact rfl)) | ((with_reducible refine' Cm.ltI (c := true) ?z9hc ?_); (case z9hc => first | assumption | kernel_rfl!)) | ((with_reducible refine' Cm.ltI (c := false) ?z9hc ?_); (case z9hc => first | assumption | kernel_rfl!)) | ((with_reducible refine' Ex.bin ?_)) | ((with_reducible refine' Ex.sub ?_)) | ((with_reducible refine' Ex.callB ?z9hs ?z9hg ?z9hv ?z9hm ?z9hk ?z9hd ?z9hp ?_); (case z9hs => assumption); (case z9hg => k_is); (case z9hv => boot_fast); (case z9hm => decide); (case z9hk => kernel_rfl!); (case z9hd => kernel_rfl); (case z9hp => exact rfl)) | ((with_reducible refine' Ex.neg ?_); intro t9) | ((with_reducible refine' Bi.addI ?_); intro t9) | (with_reducible intro a9)))
    exact ret _ _ _ _ _ _ (by assumption) (fmod_lo (by decide)) (fmod_hi (by decide))
structure Cs (w : World) : Prop where
  ms : Mks w
  po : PoolC w
  le : LeftC w
  bo : BoundC w
  fl : FLeftC w
  ro : RowAll w
  rh : RhsRowC w
  nb : NoBindsC w
theorem cs_all (w : PySem.World) : Cs w := by
  have Mk := mks w
  have Pl : PlainC w := plain_c
  have Pa : PatAll w := pat_all Mk Pl
  have Ro : RowAll w := row_all op_row
  have Tk : TakeC w := take_c
  have On : OneC w := one_c Tk
  have At : AtomC w := atom_c Mk Tk
  have Si : SideC w := side_c Mk Tk On At
  have Op : OperC w := oper_c Mk Tk On Si
  have Na : NamedC w := named_c Mk Tk On At
  have Le : LeftC w := left_c Mk Tk At Op Na
  have Pt : PartC w := part_c Mk
  have Vr : VarsC w := vars_c
  have Ow : OwnC w := own_c
  have Oe : OwnE w := own_e
  have Sp : SpineC w := spine_c
  have Oh : OperHC w := ⟨oper_ok Pt Vr Ow Pa, oper_two Pt Vr, oper_bad Pt Vr Oe⟩
  have Fb : FBaseC w := ⟨fbase_fn Oh (named_ok Sp Ow Pa), fbase_bad Oh Sp Oe⟩
  have Fl : FLeftC w := ⟨fleft_fn Fb Sp Pa, fleft_bad Fb Sp, fleft_none0 Fb Sp, fleft_pat Sp⟩
  have Bo : BoundC w := ⟨bound_fn Mk Fl, bound_pat Mk Fl Pa, bound_bad Fl, bound_none0 Fl pat_bad⟩
  exact ⟨Mk, pool_c, Le, Bo, Fl, Ro, rhs_row, nobinds_c Mk⟩
end
end
section
open PySem PySem.W PyProof.Rows PySem.Calls PySem.Spec
local macro_rules | `(tactic| ksk_a2) => `(tactic| first | with_reducible assumption | with_reducible exact List.mem_cons_self | ((with_reducible refine' sub_mem ?s1 ?m1); (case m1 => with_reducible assumption); (case s1 => k_units)) | ((with_reducible refine List.mem_append_left _ ?_); with_reducible assumption) | ((with_reducible refine List.mem_cons_of_mem _ ?_); ksk_a2) | ((with_reducible refine List.mem_append_right _ ?_); ksk_a2) | ((with_reducible refine sub_mem (by assumption) ?_); ksk_a2))
local macro_rules | `(tactic| kas_ty) => `(tactic| (refine' FnOk.mk' ?ho ?hcd ?hb ?l ?nd ?co ?gen ?kf ?cell; (case ho => k_is); (case hcd => k_is); (case hb => (intro s X; first | exact BindsTo.of_eq rfl | exact binds_K X rfl (by k_is) rfl rfl rfl)); (case l => kernel_rfl); (case nd => kernel_rfl); (case co => exact rfl); (case gen => exact rfl); (case kf => exact rfl); (case cell => kernel_rfl)))
local macro_rules | `(tactic| ksk_a1) => `(tactic| first | with_reducible exact At.head | ((with_reducible refine' At.tail ?s1); (case s1 => ksk_a1)) | ((with_reducible refine' At.app ?s1); (case s1 => ksk_a1)))
local macro_rules | `(tactic| ki_room) => `(tactic| first | with_reducible exact Split.nil | ((with_reducible refine' Split.cons ?s1); (case s1 => ki_room)) | ((with_reducible refine' Split.app ?s1); (case s1 => ki_room)))
local macro_rules | `(tactic| k_units) => `(tactic| first | with_reducible assumption | exact fun _ h => h | exact List.forall_mem_nil _ | ((with_reducible refine List.forall_mem_cons.mpr ⟨?a, ?b⟩); (case a => ksk_a2); (case b => k_units)) | ((with_reducible refine sub_left ?_); k_units) | ((with_reducible refine sub_tail ?_); k_units) | ((with_reducible refine sub_right ?_); k_units) | (with_reducible refine sub_both ?_ ?_ <;> k_units))
theorem lawAll.tw10022336598640811210 : True := trivial
theorem lawAll.tw10027779233542073958 : True := trivial
theorem lawAll.tw10059427879268176333 : True := trivial
theorem lawAll.tw10061500542196771845 : True := trivial
theorem lawAll.tw10082162335780804074 : True := trivial
theorem lawAll.tw10087741870062750304 : True := trivial
theorem lawAll.tw10110291637631563010 : True := trivial
theorem lawAll.tw10121707649417828652 : True := trivial
theorem lawAll.tw10167620401424645492 : True := trivial
theorem lawAll.tw10175254565250551500 : True := trivial
theorem lawAll.tw10201036512550068056 : True := trivial
theorem lawAll.tw10209378207141665089 : True := trivial
theorem lawAll.tw10235522147507500503 : True := trivial
theorem lawAll.tw10236405575645349683 : True := trivial
theorem lawAll.tw10255024642879761489 : True := trivial
theorem lawAll.tw10270905956426240540 : True := trivial
theorem lawAll.tw10277536468648343627 : True := trivial
theorem lawAll.tw10286113598288971111 : True := trivial
theorem lawAll.tw10299751255595830060 : True := trivial
theorem lawAll.tw10326001490002146219 : True := trivial
theorem lawAll.tw10327057862400420380 : True := trivial
theorem lawAll.tw10337889965298549921 : True := trivial
theorem lawAll.tw10348014180894277608 : True := trivial
theorem lawAll.tw10351151085248144600 : True := trivial
theorem lawAll.tw10366045838203612010 : True := trivial
theorem lawAll.tw10425523682220163637 : True := trivial
theorem lawAll.tw10455582705802072971 : True := trivial
theorem lawAll.tw10463397514579777937 : True := trivial
theorem lawAll.tw10478798839098320286 : True := trivial
theorem lawAll.tw10496617566186964 : True := trivial
theorem lawAll.tw10545993745579188262 : True := trivial
theorem lawAll.tw10551306919621225048 : True := trivial
theorem lawAll.tw10561432778442073666 : True := trivial
theorem lawAll.tw105660578031681440 : True := trivial
theorem lawAll.tw10619668358517519100 : True := trivial
theorem lawAll.tw10637997129606981046 : True := trivial
theorem lawAll.tw10675901722737177045 : True := trivial
theorem lawAll.tw10677478313894285232 : True := trivial
theorem lawAll.tw10680353005631501465 : True := trivial
theorem lawAll.tw10692515976533425276 : True := trivial
theorem lawAll.tw10715994447767734424 : True := trivial
theorem lawAll.tw10755316761742519995 : True := trivial
theorem lawAll.tw10755364651436691635 : True := trivial
theorem lawAll.tw10763433870039471742 : True := trivial
theorem lawAll.tw10766673924294264084 : True := trivial
theorem lawAll.tw10775597314094583430 : True := trivial
theorem lawAll.tw10808574429429639113 : True := trivial
theorem lawAll.tw10816736311333405425 : True := trivial
theorem lawAll.tw1084585833812029701 : True := trivial
theorem lawAll.tw10860943175837550039 : True := trivial
theorem lawAll.tw10893238767319548191 : True := trivial
theorem lawAll.tw10894206834166495242 : True := trivial
theorem lawAll.tw10945661028708232625 : True := trivial
theorem lawAll.tw11002336945963691041 : True := trivial
theorem lawAll.tw1100451025881246187 : True := trivial
theorem lawAll.tw1104571810281057689 : True := trivial
theorem lawAll.tw11054501187781923675 : True := trivial
theorem lawAll.tw11059808241324567751 : True := trivial
theorem lawAll.tw11061338725683507137 : True := trivial
theorem lawAll.tw11062177493791240951 : True := trivial
theorem lawAll.tw11105542788279590828 : True := trivial
theorem lawAll.tw11111191339413373140 : True := trivial
theorem lawAll.tw1111254238496350702 : True := trivial
theorem lawAll.tw1113055438914385301 : True := trivial
theorem lawAll.tw11148548718962631328 : True := trivial
theorem lawAll.tw11156153214949543515 : True := trivial
theorem lawAll.tw11204932214439810247 : True := trivial
theorem lawAll.tw11210473971659232833 : True := trivial
theorem lawAll.tw11235761443659088085 : True := trivial
theorem lawAll.tw11258732593826575924 : True := trivial
theorem lawAll.tw11266281958923511274 : True := trivial
theorem lawAll.tw11267634428142233229 : True := trivial
theorem lawAll.tw1127257662670310692 : True := trivial
theorem lawAll.tw11293418454802605424 : True := trivial
theorem lawAll.tw11298504666879539732 : True := trivial
theorem lawAll.tw11298980234481094330 : True := trivial
theorem lawAll.tw11301877201024562775 : True := trivial
theorem lawAll.tw11310484229166062427 : True := trivial
theorem lawAll.tw11382473427390765676 : True := trivial
theorem lawAll.tw11390732532229961885 : True := trivial
theorem lawAll.tw1140596474147010386 : True := trivial
theorem lawAll.tw11422906967037690075 : True := trivial
theorem lawAll.tw11436980781099886121 : True := trivial
theorem lawAll.tw11524829561215827822 : True := trivial
theorem lawAll.tw115631256108414517 : True := trivial
theorem lawAll.tw11593974603315532799 : True := trivial
theorem lawAll.tw11594535848574874129 : True := trivial
theorem lawAll.tw1159707891977116893 : True := trivial
theorem lawAll.tw11673728206827799569 : True := trivial
theorem lawAll.tw11687577891818334344 : True := trivial
theorem lawAll.tw11690635046669648688 : True := trivial
theorem lawAll.tw11700723222400062183 : True := trivial
theorem lawAll.tw11712565803576957783 : True := trivial
theorem lawAll.tw11727137319218543501 : True := trivial
theorem lawAll.tw11727232210925869803 : True := trivial
theorem lawAll.tw11734653935917485697 : True := trivial
theorem lawAll.tw11773914448702674229 : True := trivial
theorem lawAll.tw1178450540375072826 : True := trivial
theorem lawAll.tw11785921905166019836 : True := trivial
theorem lawAll.tw11844764494768632272 : True := trivial
theorem lawAll.tw1186444166616678174 : True := trivial
theorem lawAll.tw11869512102776624302 : True := trivial
theorem lawAll.tw11875935944718372113 : True := trivial
theorem lawAll.tw11901887786282664390 : True := trivial
theorem lawAll.tw11912736485578714459 : True := trivial
theorem lawAll.tw11921596500156746635 : True := trivial
theorem lawAll.tw11945965834393429527 : True := trivial
theorem lawAll.tw11955934886394800982 : True := trivial
theorem lawAll.tw11976105795339796807 : True := trivial
theorem lawAll.tw11983712163838685685 : True := trivial
theorem lawAll.tw11987780102699218285 : True := trivial
theorem lawAll.tw12004135420705141578 : True := trivial
theorem lawAll.tw12009379565672248203 : True := trivial
theorem lawAll.tw1202612393062387303 : True := trivial
theorem lawAll.tw12042993652977007660 : True := trivial
theorem lawAll.tw12110208284416076991 : True := trivial
theorem lawAll.tw12112685166539732083 : True := trivial
theorem lawAll.tw12125617692379848686 : True := trivial
theorem lawAll.tw12127837996735979968 : True := trivial
theorem lawAll.tw12181375807192324013 : True := trivial
theorem lawAll.tw12237870752817830393 : True := trivial
theorem lawAll.tw12239197383532073064 : True := trivial
theorem lawAll.tw12240917710771361184 : True := trivial
theorem lawAll.tw1224289128871319353 : True := trivial
theorem lawAll.tw12257836428050672394 : True := trivial
theorem lawAll.tw12267404311216282539 : True := trivial
theorem lawAll.tw12279429470785452434 : True := trivial
theorem lawAll.tw12303031962912909182 : True := trivial
theorem lawAll.tw12307013417921228065 : True := trivial
theorem lawAll.tw12315098604386028147 : True := trivial
theorem lawAll.tw12341573684643049522 : True := trivial
theorem lawAll.tw12366616416181567785 : True := trivial
theorem lawAll.tw12369322400138932805 : True := trivial
theorem lawAll.tw12371063880334114763 : True := trivial
theorem lawAll.tw12386343488025118870 : True := trivial
theorem lawAll.tw12417001137406095289 : True := trivial
theorem lawAll.tw12418931559266305860 : True := trivial
theorem lawAll.tw1244145748157381154 : True := trivial
theorem lawAll.tw12459845140948681203 : True := trivial
theorem lawAll.tw12461895936614417218 : True := trivial
theorem lawAll.tw12491530755309817170 : True := trivial
theorem lawAll.tw1249651321615185818 : True := trivial
theorem lawAll.tw12497853395756715991 : True := trivial
theorem lawAll.tw1250401223030924548 : True := trivial
theorem lawAll.tw12547240127605586317 : True := trivial
theorem lawAll.tw12606971795998863153 : True := trivial
theorem lawAll.tw12668368323326122385 : True := trivial
theorem lawAll.tw12669173540946194982 : True := trivial
theorem lawAll.tw12686728023302323036 : True := trivial
theorem lawAll.tw12690524909186721327 : True := trivial
theorem lawAll.tw12693036316136200472 : True := trivial
theorem lawAll.tw12693724438854330532 : True := trivial
theorem lawAll.tw12707998062408761654 : True := trivial
theorem lawAll.tw12712602222333024309 : True := trivial
theorem lawAll.tw12720358764197238944 : True := trivial
theorem lawAll.tw12725377288482213075 : True := trivial
theorem lawAll.tw12740670078305932068 : True := trivial
theorem lawAll.tw12742190707155084093 : True := trivial
theorem lawAll.tw12747746196488144695 : True := trivial
theorem lawAll.tw12751954598522429029 : True := trivial
theorem lawAll.tw1275407481254458613 : True := trivial
theorem lawAll.tw1275818904096652654 : True := trivial
theorem lawAll.tw1275885147868627787 : True := trivial
theorem lawAll.tw12771449922091415666 : True := trivial
theorem lawAll.tw12797259487022112195 : True := trivial
theorem lawAll.tw12807247231873778816 : True := trivial
theorem lawAll.tw1282915816725891390 : True := trivial
theorem lawAll.tw12839356195497716446 : True := trivial
theorem lawAll.tw12879859119576679120 : True := trivial
theorem lawAll.tw12889858043790798712 : True := trivial
theorem lawAll.tw12922425804255413758 : True := trivial
theorem lawAll.tw12926112117691384196 : True := trivial
theorem lawAll.tw12943390814474887189 : True := trivial
theorem lawAll.tw12990900938353390019 : True := trivial
theorem lawAll.tw13002168238445624832 : True := trivial
theorem lawAll.tw13016856514302505206 : True := trivial
theorem lawAll.tw13025492904715834264 : True := trivial
theorem lawAll.tw13028367692739075261 : True := trivial
theorem lawAll.tw1307237403436499920 : True := trivial
theorem lawAll.tw13081750777691300227 : True := trivial
theorem lawAll.tw13098689882611087315 : True := trivial
theorem lawAll.tw13101736643387812 : True := trivial
theorem lawAll.tw13101998308291227881 : True := trivial
theorem lawAll.tw13102631143263331486 : True := trivial
theorem lawAll.tw13178249790527861724 : True := trivial
theorem lawAll.tw13220458526117846002 : True := trivial
theorem lawAll.tw13224678333699590282 : True := trivial
theorem lawAll.tw13230056285356291625 : True := trivial
theorem lawAll.tw13238834010954038110 : True := trivial
theorem lawAll.tw13265512427523378330 : True := trivial
theorem lawAll.tw13285875857603997377 : True := trivial
theorem lawAll.tw13294883586343543133 : True := trivial
theorem lawAll.tw13314081743979520248 : True := trivial
theorem lawAll.tw13340980363276417820 : True := trivial
theorem lawAll.tw1337056382050702756 : True := trivial
theorem lawAll.tw13379895992714205382 : True := trivial
theorem lawAll.tw13391267897656086281 : True := trivial
theorem lawAll.tw13401159709244302813 : True := trivial
theorem lawAll.tw13406874501230754348 : True := trivial
theorem lawAll.tw13433948336422313108 : True := trivial
theorem lawAll.tw13436050922882525422 : True := trivial
theorem lawAll.tw13451732432692353402 : True := trivial
theorem lawAll.tw13503368755956608632 : True := trivial
theorem lawAll.tw13509375897243015319 : True := trivial
theorem lawAll.tw13526251112067997014 : True := trivial
theorem lawAll.tw13574304369231527557 : True := trivial
theorem lawAll.tw13582166994379902903 : True := trivial
theorem lawAll.tw13582273714407446284 : True := trivial
theorem lawAll.tw13600184731766057859 : True := trivial
theorem lawAll.tw13649076121540664844 : True := trivial
theorem lawAll.tw13760798168649667428 : True := trivial
theorem lawAll.tw1376097193121527988 : True := trivial
theorem lawAll.tw13768641189757217944 : True := trivial
theorem lawAll.tw13786195474621255416 : True := trivial
theorem lawAll.tw13789923383382018382 : True := trivial
theorem lawAll.tw13793736604455437338 : True := trivial
theorem lawAll.tw13795550381676250123 : True := trivial
theorem lawAll.tw13800678614446374014 : True := trivial
theorem lawAll.tw13802768204421600722 : True := trivial
theorem lawAll.tw13804305469840480156 : True := trivial
theorem lawAll.tw13813482469875391320 : True := trivial
theorem lawAll.tw13823751931017294295 : True := trivial
theorem lawAll.tw13844005928963865424 : True := trivial
theorem lawAll.tw13863016370078290071 : True := trivial
theorem lawAll.tw13864090898591629173 : True := trivial
theorem lawAll.tw13864452094823735562 : True := trivial
theorem lawAll.tw13874421018821439638 : True := trivial
theorem lawAll.tw13880338292940372270 : True := trivial
theorem lawAll.tw13885598652417990484 : True := trivial
theorem lawAll.tw13905125284957372468 : True := trivial
theorem lawAll.tw13912420524655412791 : True := trivial
theorem lawAll.tw13917840489041178847 : True := trivial
theorem lawAll.tw13959916693732878462 : True := trivial
theorem lawAll.tw1399333593034801478 : True := trivial
theorem lawAll.tw1399875952186133261 : True := trivial
theorem lawAll.tw14016333260211028766 : True := trivial
theorem lawAll.tw14016821115303154114 : True := trivial
theorem lawAll.tw14039151587204359190 : True := trivial
theorem lawAll.tw14040690944563646253 : True := trivial
theorem lawAll.tw14050064787440378718 : True := trivial
theorem lawAll.tw14056058067768777083 : True := trivial
theorem lawAll.tw14057307028103041013 : True := trivial
theorem lawAll.tw1405879879662315033 : True := trivial
theorem lawAll.tw14067584019458240570 : True := trivial
theorem lawAll.tw14109054033289646693 : True := trivial
theorem lawAll.tw14111318250831424369 : True := trivial
theorem lawAll.tw14127599252405180904 : True := trivial
theorem lawAll.tw14145930618936575915 : True := trivial
theorem lawAll.tw14168510849412930922 : True := trivial
theorem lawAll.tw14176433796234951181 : True := trivial
theorem lawAll.tw14176584117692193420 : True := trivial
theorem lawAll.tw14204087283165298401 : True := trivial
theorem lawAll.tw14213757668721110137 : True := trivial
theorem lawAll.tw14271100283132796104 : True := trivial
theorem lawAll.tw14280623233590659555 : True := trivial
theorem lawAll.tw14281600860145079363 : True := trivial
theorem lawAll.tw14296344154575647196 : True := trivial
theorem lawAll.tw14307501700840576221 : True := trivial
theorem lawAll.tw14310126178062787162 : True := trivial
theorem lawAll.tw1436138412961508580 : True := trivial
theorem lawAll.tw14379187825127254255 : True := trivial
theorem lawAll.tw14406191000009103399 : True := trivial
theorem lawAll.tw14446790703039894613 : True := trivial
theorem lawAll.tw14448944616544982065 : True := trivial
theorem lawAll.tw14450737863268607075 : True := trivial
theorem lawAll.tw1446127945588905507 : True := trivial
theorem lawAll.tw14480846521047764735 : True := trivial
theorem lawAll.tw14499878153765158074 : True := trivial
theorem lawAll.tw14532546300232511432 : True := trivial
theorem lawAll.tw14550191050352765051 : True := trivial
theorem lawAll.tw1456060808249481257 : True := trivial
theorem lawAll.tw14565885719956507856 : True := trivial
theorem lawAll.tw14569855970608756083 : True := trivial
theorem lawAll.tw14600476517256602145 : True := trivial
theorem lawAll.tw14605916368887099541 : True := trivial
theorem lawAll.tw14610589545860304287 : True := trivial
theorem lawAll.tw14611898992397135237 : True := trivial
theorem lawAll.tw14617090440708810171 : True := trivial
theorem lawAll.tw14639098495962376890 : True := trivial
theorem lawAll.tw14641312379993956165 : True := trivial
theorem lawAll.tw14685218128469269727 : True := trivial
theorem lawAll.tw14701057828924582967 : True := trivial
theorem lawAll.tw1471915301451583497 : True := trivial
theorem lawAll.tw14725618311926188414 : True := trivial
theorem lawAll.tw14801652218812397361 : True := trivial
theorem lawAll.tw1483772073825940898 : True := trivial
theorem lawAll.tw14854202049591642455 : True := trivial
theorem lawAll.tw14867687685057663157 : True := trivial
theorem lawAll.tw1492666924780955320 : True := trivial
theorem lawAll.tw14928313962073897480 : True := trivial
theorem lawAll.tw14944485602793965386 : True := trivial
theorem lawAll.tw14946479738111601835 : True := trivial
theorem lawAll.tw14956225904793035887 : True := trivial
theorem lawAll.tw14986919360985230071 : True := trivial
theorem lawAll.tw14997681990046173633 : True := trivial
theorem lawAll.tw15000304561536336395 : True := trivial
theorem lawAll.tw15047779005408459493 : True := trivial
theorem lawAll.tw15063627363804498634 : True := trivial
theorem lawAll.tw15067266847036674542 : True := trivial
theorem lawAll.tw15068444739067885615 : True := trivial
theorem lawAll.tw15076054889842841616 : True := trivial
theorem lawAll.tw15100571656087579856 : True := trivial
theorem lawAll.tw15121943742577434097 : True := trivial
theorem lawAll.tw15124256521577043497 : True := trivial
theorem lawAll.tw1513063111459993054 : True := trivial
theorem lawAll.tw15163498309271975141 : True := trivial
theorem lawAll.tw15197251117166334207 : True := trivial
theorem lawAll.tw15218806862786397869 : True := trivial
theorem lawAll.tw1521932327747974929 : True := trivial
theorem lawAll.tw15226520876076452913 : True := trivial
theorem lawAll.tw15244200789393927425 : True := trivial
theorem lawAll.tw15267573546792056610 : True := trivial
theorem lawAll.tw1526910718437850571 : True := trivial
theorem lawAll.tw15280316289395124268 : True := trivial
theorem lawAll.tw15303503225979606900 : True := trivial
theorem lawAll.tw15346576598926970625 : True := trivial
theorem lawAll.tw15356763954519128031 : True := trivial
theorem lawAll.tw15356885029701435960 : True := trivial
theorem lawAll.tw15359174401266449399 : True := trivial
theorem lawAll.tw15364703416859912615 : True := trivial
theorem lawAll.tw1536715352931673049 : True := trivial
theorem lawAll.tw15372729700842562067 : True := trivial
theorem lawAll.tw15400701939167432149 : True := trivial
theorem lawAll.tw15411717884777436606 : True := trivial
theorem lawAll.tw15446336148512532523 : True := trivial
theorem lawAll.tw15471970711105809006 : True := trivial
theorem lawAll.tw15511478568110224838 : True := trivial
theorem lawAll.tw15519195430143540751 : True := trivial
theorem lawAll.tw15547254055949388404 : True := trivial
theorem lawAll.tw15565307863123943141 : True := trivial
theorem lawAll.tw15567000907201155998 : True := trivial
theorem lawAll.tw15584161281351241953 : True := trivial
theorem lawAll.tw15591854090880510256 : True := trivial
theorem lawAll.tw15609722008653963902 : True := trivial
theorem lawAll.tw15630016582657263046 : True := trivial
theorem lawAll.tw15647882145394581523 : True := trivial
theorem lawAll.tw15665305169069171566 : True := trivial
theorem lawAll.tw15676139998459543760 : True := trivial
theorem lawAll.tw15748918419673523998 : True := trivial
theorem lawAll.tw15806857251727485653 : True := trivial
theorem lawAll.tw1582858563465334752 : True := trivial
theorem lawAll.tw15829781840466982731 : True := trivial
theorem lawAll.tw15858938039916779813 : True := trivial
theorem lawAll.tw15866873740166897743 : True := trivial
theorem lawAll.tw15890554057345030090 : True := trivial
theorem lawAll.tw15951537700758306624 : True := trivial
theorem lawAll.tw15955732214410383517 : True := trivial
theorem lawAll.tw15991247558968142112 : True := trivial
theorem lawAll.tw16012384026764050802 : True := trivial
theorem lawAll.tw16042032539492748774 : True := trivial
theorem lawAll.tw16087581218264509804 : True := trivial
theorem lawAll.tw16090010807712447478 : True := trivial
theorem lawAll.tw16093404581138270685 : True := trivial
theorem lawAll.tw16101996027873995029 : True := trivial
theorem lawAll.tw16103327278391440195 : True := trivial
theorem lawAll.tw16141046092776084358 : True := trivial
theorem lawAll.tw16155218295044844872 : True := trivial
theorem lawAll.tw1617205945413415873 : True := trivial
theorem lawAll.tw16211122981330793638 : True := trivial
theorem lawAll.tw16266156554330545109 : True := trivial
theorem lawAll.tw16278875522718313591 : True := trivial
theorem lawAll.tw16286345437113739350 : True := trivial
theorem lawAll.tw16289073907987657843 : True := trivial
theorem lawAll.tw1630720604520505542 : True := trivial
theorem lawAll.tw16309301127156898010 : True := trivial
theorem lawAll.tw16316678258444596684 : True := trivial
theorem lawAll.tw16327766857409536353 : True := trivial
theorem lawAll.tw16334328745639252330 : True := trivial
theorem lawAll.tw16338506522149923043 : True := trivial
theorem lawAll.tw1634933718444128652 : True := trivial
theorem lawAll.tw16354389521507567613 : True := trivial
theorem lawAll.tw16366158608253197589 : True := trivial
theorem lawAll.tw16387879098636915677 : True := trivial
theorem lawAll.tw16404670261967147493 : True := trivial
theorem lawAll.tw16425001825406098322 : True := trivial
theorem lawAll.tw1643629411611807022 : True := trivial
theorem lawAll.tw16436677207756164281 : True := trivial
theorem lawAll.tw16440201339843190750 : True := trivial
theorem lawAll.tw16444149802035148994 : True := trivial
theorem lawAll.tw16444974738499760728 : True := trivial
theorem lawAll.tw16455354681798425017 : True := trivial
theorem lawAll.tw16462604323240059667 : True := trivial
theorem lawAll.tw1651507365952346809 : True := trivial
theorem lawAll.tw16540550316217768300 : True := trivial
theorem lawAll.tw16549425945403992634 : True := trivial
theorem lawAll.tw16552460663091802204 : True := trivial
theorem lawAll.tw16583551313022653366 : True := trivial
theorem lawAll.tw1658730808148436763 : True := trivial
theorem lawAll.tw16588105542572439585 : True := trivial
theorem lawAll.tw16626301670092680310 : True := trivial
theorem lawAll.tw16649504937650241998 : True := trivial
theorem lawAll.tw16713168274096297615 : True := trivial
theorem lawAll.tw16796170409215952251 : True := trivial
theorem lawAll.tw16814410782220597305 : True := trivial
theorem lawAll.tw16818142126509089788 : True := trivial
theorem lawAll.tw16832895974038456254 : True := trivial
theorem lawAll.tw16868425562419438683 : True := trivial
theorem lawAll.tw16880244203873347489 : True := trivial
theorem lawAll.tw16935337971286999034 : True := trivial
theorem lawAll.tw16970875510739190904 : True := trivial
theorem lawAll.tw16976263542821864289 : True := trivial
theorem lawAll.tw16985431448362306047 : True := trivial
theorem lawAll.tw17015629677976171480 : True := trivial
theorem lawAll.tw17028904940454715942 : True := trivial
theorem lawAll.tw17055953658200517786 : True := trivial
theorem lawAll.tw17065331009434869963 : True := trivial
theorem lawAll.tw17070934647408053383 : True := trivial
theorem lawAll.tw17076516893171559888 : True := trivial
theorem lawAll.tw17080332073030848494 : True := trivial
theorem lawAll.tw17082684356935615784 : True := trivial
theorem lawAll.tw17085367290324420073 : True := trivial
theorem lawAll.tw17089379963549663756 : True := trivial
theorem lawAll.tw17091102328635691071 : True := trivial
theorem lawAll.tw17128872147453930653 : True := trivial
theorem lawAll.tw17168373713978953810 : True := trivial
theorem lawAll.tw17183339961836042074 : True := trivial
theorem lawAll.tw17194969992220666380 : True := trivial
theorem lawAll.tw17217646329933456626 : True := trivial
theorem lawAll.tw17233972676053004718 : True := trivial
theorem lawAll.tw17245399983738167179 : True := trivial
theorem lawAll.tw17259450030495248310 : True := trivial
theorem lawAll.tw1731225087053023647 : True := trivial
theorem lawAll.tw17322886562126955163 : True := trivial
theorem lawAll.tw17324761572014843247 : True := trivial
theorem lawAll.tw173452118774996126 : True := trivial
theorem lawAll.tw17414518841108871047 : True := trivial
theorem lawAll.tw17415115113542702270 : True := trivial
theorem lawAll.tw17415647052507374980 : True := trivial
theorem lawAll.tw17440529392419388924 : True := trivial
theorem lawAll.tw1748832167421364756 : True := trivial
theorem lawAll.tw17506290213290904225 : True := trivial
theorem lawAll.tw17514275227303748591 : True := trivial
theorem lawAll.tw17573557987294286563 : True := trivial
theorem lawAll.tw17585334881956140308 : True := trivial
theorem lawAll.tw17660026038311564350 : True := trivial
theorem lawAll.tw17706879153681360642 : True := trivial
theorem lawAll.tw17770027060093141264 : True := trivial
theorem lawAll.tw17791311048505491270 : True := trivial
theorem lawAll.tw17796064270945192096 : True := trivial
theorem lawAll.tw17832149369414990373 : True := trivial
theorem lawAll.tw17840221084230165613 : True := trivial
theorem lawAll.tw17915469237623089489 : True := trivial
theorem lawAll.tw1793556816418754506 : True := trivial
theorem lawAll.tw17945745162309690969 : True := trivial
theorem lawAll.tw1799473837097802105 : True := trivial
theorem lawAll.tw1800416694007732930 : True := trivial
theorem lawAll.tw18009888839634153427 : True := trivial
theorem lawAll.tw18014241946214204944 : True := trivial
theorem lawAll.tw18023428801417856151 : True := trivial
theorem lawAll.tw18058654539165251830 : True := trivial
theorem lawAll.tw1806121219318444916 : True := trivial
theorem lawAll.tw18070727051186232486 : True := trivial
theorem lawAll.tw18085240594898555849 : True := trivial
theorem lawAll.tw18101342258920006488 : True := trivial
theorem lawAll.tw18107302103128218315 : True := trivial
theorem lawAll.tw18111916469948476973 : True := trivial
theorem lawAll.tw18117752965047274966 : True := trivial
theorem lawAll.tw18124999606698825763 : True := trivial
theorem lawAll.tw18180642443345437799 : True := trivial
theorem lawAll.tw18197551482501627546 : True := trivial
theorem lawAll.tw18212790323462229464 : True := trivial
theorem lawAll.tw18292571914713131569 : True := trivial
theorem lawAll.tw18321905315991749957 : True := trivial
theorem lawAll.tw18337499904378635216 : True := trivial
theorem lawAll.tw18376964141264895632 : True := trivial
theorem lawAll.tw18412854916855598094 : True := trivial
theorem lawAll.tw186640395893847027 : True := trivial
theorem lawAll.tw1878560482596927596 : True := trivial
theorem lawAll.tw195384123058109353 : True := trivial
theorem lawAll.tw19997660028300018 : True := trivial
theorem lawAll.tw2006550593814544627 : True := trivial
theorem lawAll.tw2020902261569653849 : True := trivial
theorem lawAll.tw2021787741924333775 : True := trivial
theorem lawAll.tw2022356982325539694 : True := trivial
theorem lawAll.tw2036912636958202934 : True := trivial
theorem lawAll.tw2068416617897943769 : True := trivial
theorem lawAll.tw2068655647646139677 : True := trivial
theorem lawAll.tw2075948660939591508 : True := trivial
theorem lawAll.tw2124398571399239469 : True := trivial
theorem lawAll.tw2134133826420373028 : True := trivial
theorem lawAll.tw216537877127825957 : True := trivial
theorem lawAll.tw2207053825450897865 : True := trivial
theorem lawAll.tw220945434881961554 : True := trivial
theorem lawAll.tw2209564372347553849 : True := trivial
theorem lawAll.tw221153836720223114 : True := trivial
theorem lawAll.tw2253239094542302937 : True := trivial
theorem lawAll.tw2317219561393178309 : True := trivial
theorem lawAll.tw235280475165642023 : True := trivial
theorem lawAll.tw2384067607703389583 : True := trivial
theorem lawAll.tw2408985525790665391 : True := trivial
theorem lawAll.tw2428823362840081865 : True := trivial
theorem lawAll.tw2432628988794059600 : True := trivial
theorem lawAll.tw2455937553326040998 : True := trivial
theorem lawAll.tw2464670722137414799 : True := trivial
theorem lawAll.tw2476267117351894996 : True := trivial
theorem lawAll.tw2501841239459044128 : True := trivial
theorem lawAll.tw2515929503293009266 : True := trivial
theorem lawAll.tw2570915093007178368 : True := trivial
theorem lawAll.tw2616398583060266735 : True := trivial
theorem lawAll.tw262015628738605808 : True := trivial
theorem lawAll.tw2637204115952980720 : True := trivial
theorem lawAll.tw2662052234551677093 : True := trivial
theorem lawAll.tw2665878780030824890 : True := trivial
theorem lawAll.tw2669252071439315957 : True := trivial
theorem lawAll.tw2698323955949950865 : True := trivial
theorem lawAll.tw2725105411411416669 : True := trivial
theorem lawAll.tw2741148357505853299 : True := trivial
theorem lawAll.tw2744647813753444408 : True := trivial
theorem lawAll.tw2747715100026676840 : True := trivial
theorem lawAll.tw2751466924020670776 : True := trivial
theorem lawAll.tw2761805437666727468 : True := trivial
theorem lawAll.tw2791218739950439072 : True := trivial
theorem lawAll.tw2811496093831205301 : True := trivial
theorem lawAll.tw2813053100710860402 : True := trivial
theorem lawAll.tw2870014611414451023 : True := trivial
theorem lawAll.tw2912959851322561596 : True := trivial
theorem lawAll.tw293898723210919303 : True := trivial
theorem lawAll.tw2989666075679443362 : True := trivial
theorem lawAll.tw3023241426661244231 : True := trivial
theorem lawAll.tw3027757063526962912 : True := trivial
theorem lawAll.tw3033799767829628933 : True := trivial
theorem lawAll.tw3064967687520050872 : True := trivial
theorem lawAll.tw3087713060571307786 : True := trivial
theorem lawAll.tw3093571972057388215 : True := trivial
theorem lawAll.tw3100058237560613417 : True := trivial
theorem lawAll.tw3110614877905532686 : True := trivial
theorem lawAll.tw3119831896075457067 : True := trivial
theorem lawAll.tw3166831235668190696 : True := trivial
theorem lawAll.tw3223425518254528795 : True := trivial
theorem lawAll.tw322887695167018471 : True := trivial
theorem lawAll.tw3240326090831292405 : True := trivial
theorem lawAll.tw3241297165277484291 : True := trivial
theorem lawAll.tw3245269241325315261 : True := trivial
theorem lawAll.tw3253679002753471927 : True := trivial
theorem lawAll.tw3260445874321622888 : True := trivial
theorem lawAll.tw3293717286967788572 : True := trivial
theorem lawAll.tw3311010018770695949 : True := trivial
theorem lawAll.tw3357997418967605617 : True := trivial
theorem lawAll.tw3383554573622849307 : True := trivial
theorem lawAll.tw3388551262424430976 : True := trivial
theorem lawAll.tw3408597989762021186 : True := trivial
theorem lawAll.tw3436425743423371335 : True := trivial
theorem lawAll.tw3439572248316767833 : True := trivial
theorem lawAll.tw3445430010699225480 : True := trivial
theorem lawAll.tw3461424859870834929 : True := trivial
theorem lawAll.tw3467587578720635190 : True := trivial
theorem lawAll.tw3476371696611504530 : True := trivial
theorem lawAll.tw3476806768170420960 : True := trivial
theorem lawAll.tw3481531691327488183 : True := trivial
theorem lawAll.tw3483245058508164502 : True := trivial
theorem lawAll.tw3520269065083375743 : True := trivial
theorem lawAll.tw354402610870579770 : True := trivial
theorem lawAll.tw3553053671452936395 : True := trivial
theorem lawAll.tw3569051421354784363 : True := trivial
theorem lawAll.tw3569573921703099884 : True := trivial
theorem lawAll.tw3619612509861838808 : True := trivial
theorem lawAll.tw3676206403961095248 : True := trivial
theorem lawAll.tw3683069935409440789 : True := trivial
theorem lawAll.tw372032641950504818 : True := trivial
theorem lawAll.tw3741693839567224623 : True := trivial
theorem lawAll.tw3743780304958498420 : True := trivial
theorem lawAll.tw37462215405306112 : True := trivial
theorem lawAll.tw3752623751877371018 : True := trivial
theorem lawAll.tw3768915364345970047 : True := trivial
theorem lawAll.tw3804189751593436189 : True := trivial
theorem lawAll.tw3832387929570841015 : True := trivial
theorem lawAll.tw3848361311708604959 : True := trivial
theorem lawAll.tw3851146157462129562 : True := trivial
theorem lawAll.tw3852519958376367248 : True := trivial
theorem lawAll.tw3855010371935473548 : True := trivial
theorem lawAll.tw3896432690101320100 : True := trivial
theorem lawAll.tw3909898500261920979 : True := trivial
theorem lawAll.tw3941120687739070813 : True := trivial
theorem lawAll.tw3948213299580661059 : True := trivial
theorem lawAll.tw3968506591879405028 : True := trivial
theorem lawAll.tw3973604386994239544 : True := trivial
theorem lawAll.tw4028702493532079382 : True := trivial
theorem lawAll.tw4041479997531161488 : True := trivial
theorem lawAll.tw4050818387224250673 : True := trivial
theorem lawAll.tw4076650879053125017 : True := trivial
theorem lawAll.tw4078331922764629416 : True := trivial
theorem lawAll.tw409986959071521413 : True := trivial
theorem lawAll.tw4110590683462396305 : True := trivial
theorem lawAll.tw4151457436592252600 : True := trivial
theorem lawAll.tw4168163700988789946 : True := trivial
theorem lawAll.tw4208847250738531172 : True := trivial
theorem lawAll.tw4213417880912736390 : True := trivial
theorem lawAll.tw4217554711436577118 : True := trivial
theorem lawAll.tw4221010377691515065 : True := trivial
theorem lawAll.tw4254128056559500520 : True := trivial
theorem lawAll.tw4270903016371187152 : True := trivial
theorem lawAll.tw4307190548362843728 : True := trivial
theorem lawAll.tw4343552728862277388 : True := trivial
theorem lawAll.tw4415924897188105212 : True := trivial
theorem lawAll.tw4448789811591653861 : True := trivial
theorem lawAll.tw4485500905829519521 : True := trivial
theorem lawAll.tw44882480589374757 : True := trivial
theorem lawAll.tw455105763378268856 : True := trivial
theorem lawAll.tw4573110211582392927 : True := trivial
theorem lawAll.tw4579324665073191640 : True := trivial
theorem lawAll.tw4595562893050167444 : True := trivial
theorem lawAll.tw4598014609592775981 : True := trivial
theorem lawAll.tw4605578554435113895 : True := trivial
theorem lawAll.tw4645555408965376366 : True := trivial
theorem lawAll.tw4649983614630747899 : True := trivial
theorem lawAll.tw4651296247170107473 : True := trivial
theorem lawAll.tw4657639905450871877 : True := trivial
theorem lawAll.tw4666088226057838770 : True := trivial
theorem lawAll.tw468106706025496309 : True := trivial
theorem lawAll.tw4705055011124703374 : True := trivial
theorem lawAll.tw4713865811582710244 : True := trivial
theorem lawAll.tw4738961569345474722 : True := trivial
theorem lawAll.tw4758413980966515643 : True := trivial
theorem lawAll.tw4776421625454615645 : True := trivial
theorem lawAll.tw4787433277625069558 : True := trivial
theorem lawAll.tw4806549638390720743 : True := trivial
theorem lawAll.tw4827565944567905134 : True := trivial
theorem lawAll.tw4844051539491773472 : True := trivial
theorem lawAll.tw4846403869397312439 : True := trivial
theorem lawAll.tw4861040719469679656 : True := trivial
theorem lawAll.tw4871594627801880 : True := trivial
theorem lawAll.tw488130259763020050 : True := trivial
theorem lawAll.tw4945784704504443980 : True := trivial
theorem lawAll.tw497514650218626158 : True := trivial
theorem lawAll.tw501216476122563177 : True := trivial
theorem lawAll.tw5017921221549043517 : True := trivial
theorem lawAll.tw5046104053569954257 : True := trivial
theorem lawAll.tw505286833889625307 : True := trivial
theorem lawAll.tw5058001798860478888 : True := trivial
theorem lawAll.tw5099062935602800518 : True := trivial
theorem lawAll.tw5099606561176007860 : True := trivial
theorem lawAll.tw5107143558830630767 : True := trivial
theorem lawAll.tw511418326383644093 : True := trivial
theorem lawAll.tw5122455046250492857 : True := trivial
theorem lawAll.tw5132711295180950361 : True := trivial
theorem lawAll.tw5158042957032369253 : True := trivial
theorem lawAll.tw5190414011552947674 : True := trivial
theorem lawAll.tw5200085376970095154 : True := trivial
theorem lawAll.tw522905787556300719 : True := trivial
theorem lawAll.tw5271007199935150828 : True := trivial
theorem lawAll.tw5291232783159606929 : True := trivial
theorem lawAll.tw5293929958733964686 : True := trivial
theorem lawAll.tw5294216402130883787 : True := trivial
theorem lawAll.tw5294972815793039530 : True := trivial
theorem lawAll.tw5303529006060052836 : True := trivial
theorem lawAll.tw5321001956258693000 : True := trivial
theorem lawAll.tw5358609228044695073 : True := trivial
theorem lawAll.tw5365528497351080993 : True := trivial
theorem lawAll.tw5366974644951415947 : True := trivial
theorem lawAll.tw5374616432720684328 : True := trivial
theorem lawAll.tw5383245207062938828 : True := trivial
theorem lawAll.tw5442872421288555596 : True := trivial
theorem lawAll.tw5446544211750631806 : True := trivial
theorem lawAll.tw5530321582666738788 : True := trivial
theorem lawAll.tw5556122799266237591 : True := trivial
theorem lawAll.tw560720139964356275 : True := trivial
theorem lawAll.tw5620118078107107735 : True := trivial
theorem lawAll.tw5623230768026321443 : True := trivial
theorem lawAll.tw5635515498856424817 : True := trivial
theorem lawAll.tw5650443186404035049 : True := trivial
theorem lawAll.tw5682467281799084870 : True := trivial
theorem lawAll.tw5698399868907037873 : True := trivial
theorem lawAll.tw5728151225191513339 : True := trivial
theorem lawAll.tw5753380877470265139 : True := trivial
theorem lawAll.tw5760494644068795948 : True := trivial
theorem lawAll.tw5766162827786018194 : True := trivial
theorem lawAll.tw5784136586939790592 : True := trivial
theorem lawAll.tw578773646837107348 : True := trivial
theorem lawAll.tw5806653984726626485 : True := trivial
theorem lawAll.tw5834879033702513484 : True := trivial
theorem lawAll.tw5850810783734923004 : True := trivial
theorem lawAll.tw5894930498055930011 : True := trivial
theorem lawAll.tw5907494004034311671 : True := trivial
theorem lawAll.tw5926047495112745928 : True := trivial
theorem lawAll.tw5939841206321351147 : True := trivial
theorem lawAll.tw5954379009169713356 : True := trivial
theorem lawAll.tw5977911409511621293 : True := trivial
theorem lawAll.tw5995696144404183969 : True := trivial
theorem lawAll.tw6029052360097600526 : True := trivial
theorem lawAll.tw6029123639874391400 : True := trivial
theorem lawAll.tw6034928336336297456 : True := trivial
theorem lawAll.tw6086144281401477644 : True := trivial
theorem lawAll.tw6089432594217702831 : True := trivial
theorem lawAll.tw6104274365079168945 : True := trivial
theorem lawAll.tw6105112277890231764 : True := trivial
theorem lawAll.tw6127895560120717710 : True := trivial
theorem lawAll.tw6130134260185875684 : True := trivial
theorem lawAll.tw6146636519928814946 : True := trivial
theorem lawAll.tw6150748687434853734 : True := trivial
theorem lawAll.tw61527962716218508 : True := trivial
theorem lawAll.tw615922398641965327 : True := trivial
theorem lawAll.tw6173367340568456070 : True := trivial
theorem lawAll.tw6173589503797007073 : True := trivial
theorem lawAll.tw6234314980136724162 : True := trivial
theorem lawAll.tw6244085327911893841 : True := trivial
theorem lawAll.tw6273678738280876812 : True := trivial
theorem lawAll.tw6291431510470445808 : True := trivial
theorem lawAll.tw6304852214276784590 : True := trivial
theorem lawAll.tw6313989668148383308 : True := trivial
theorem lawAll.tw6315661659458468541 : True := trivial
theorem lawAll.tw6320226954691671603 : True := trivial
theorem lawAll.tw6328911231466299777 : True := trivial
theorem lawAll.tw6332285897277122286 : True := trivial
theorem lawAll.tw6338127586696482166 : True := trivial
theorem lawAll.tw634295852177920682 : True := trivial
theorem lawAll.tw6359940812521428155 : True := trivial
theorem lawAll.tw6379238875602926811 : True := trivial
theorem lawAll.tw6386515862432853090 : True := trivial
theorem lawAll.tw6391843852917980875 : True := trivial
theorem lawAll.tw6421463970313798290 : True := trivial
theorem lawAll.tw6452028748379608091 : True := trivial
theorem lawAll.tw6456066827889652097 : True := trivial
theorem lawAll.tw6464354154551249994 : True := trivial
theorem lawAll.tw6470505604193135908 : True := trivial
theorem lawAll.tw6474674944052409466 : True := trivial
theorem lawAll.tw6474925228686811292 : True := trivial
theorem lawAll.tw6494166169681143527 : True := trivial
theorem lawAll.tw6495538923287997935 : True := trivial
theorem lawAll.tw6519975829437111486 : True := trivial
theorem lawAll.tw6523036832047532120 : True := trivial
theorem lawAll.tw6525896870419909094 : True := trivial
theorem lawAll.tw6526294684837370960 : True := trivial
theorem lawAll.tw6532139602072925685 : True := trivial
theorem lawAll.tw6541373189582677139 : True := trivial
theorem lawAll.tw6578031092502051167 : True := trivial
theorem lawAll.tw6583451947459068290 : True := trivial
theorem lawAll.tw6591272647092104550 : True := trivial
theorem lawAll.tw663690787978041266 : True := trivial
theorem lawAll.tw6666479513468855318 : True := trivial
theorem lawAll.tw6671452848853806788 : True := trivial
theorem lawAll.tw6687855694851425842 : True := trivial
theorem lawAll.tw6731551104354027699 : True := trivial
theorem lawAll.tw676283091828744705 : True := trivial
theorem lawAll.tw6795259858984004196 : True := trivial
theorem lawAll.tw6799928202973089734 : True := trivial
theorem lawAll.tw6809479778576068819 : True := trivial
theorem lawAll.tw6812722692579540867 : True := trivial
theorem lawAll.tw6814983634340809207 : True := trivial
theorem lawAll.tw6858110588540304254 : True := trivial
theorem lawAll.tw6887725245342067414 : True := trivial
theorem lawAll.tw6888583402682333492 : True := trivial
theorem lawAll.tw693316171767624282 : True := trivial
theorem lawAll.tw6934609477680871257 : True := trivial
theorem lawAll.tw6937331290146074002 : True := trivial
theorem lawAll.tw6946333219849119720 : True := trivial
theorem lawAll.tw6967039919493490529 : True := trivial
theorem lawAll.tw7000259244734907507 : True := trivial
theorem lawAll.tw702629687376644447 : True := trivial
theorem lawAll.tw7031289832270293771 : True := trivial
theorem lawAll.tw7057567777046413119 : True := trivial
theorem lawAll.tw7102893955020642184 : True := trivial
theorem lawAll.tw710986065348776255 : True := trivial
theorem lawAll.tw7125240207252239964 : True := trivial
theorem lawAll.tw7132998999497052250 : True := trivial
theorem lawAll.tw7142212103634557027 : True := trivial
theorem lawAll.tw7145177094128294481 : True := trivial
theorem lawAll.tw7155509962069320769 : True := trivial
theorem lawAll.tw7161207199982296276 : True := trivial
theorem lawAll.tw7175260387127427746 : True := trivial
theorem lawAll.tw7206924826258749172 : True := trivial
theorem lawAll.tw723178704641318203 : True := trivial
theorem lawAll.tw7338926870497705356 : True := trivial
theorem lawAll.tw7373703450722847042 : True := trivial
theorem lawAll.tw740664393932707376 : True := trivial
theorem lawAll.tw7427295549314705070 : True := trivial
theorem lawAll.tw7432577308594288437 : True := trivial
theorem lawAll.tw745017888418433506 : True := trivial
theorem lawAll.tw7458266903274642692 : True := trivial
theorem lawAll.tw7489877103153131149 : True := trivial
theorem lawAll.tw7496750836930308406 : True := trivial
theorem lawAll.tw7513048996153471739 : True := trivial
theorem lawAll.tw7519486799875779846 : True := trivial
theorem lawAll.tw7520316100002043359 : True := trivial
theorem lawAll.tw7529193322764683772 : True := trivial
theorem lawAll.tw7536680976087387252 : True := trivial
theorem lawAll.tw755315395575300518 : True := trivial
theorem lawAll.tw756734826561912235 : True := trivial
theorem lawAll.tw7588936669857773304 : True := trivial
theorem lawAll.tw7597084981696642671 : True := trivial
theorem lawAll.tw759798753586469108 : True := trivial
theorem lawAll.tw7619940674551190760 : True := trivial
theorem lawAll.tw7624110194621306730 : True := trivial
theorem lawAll.tw7624884402560262875 : True := trivial
theorem lawAll.tw7639889335326090897 : True := trivial
theorem lawAll.tw7675640101612698030 : True := trivial
theorem lawAll.tw7703861692282002163 : True := trivial
theorem lawAll.tw7746605684080601441 : True := trivial
theorem lawAll.tw7747018800304174399 : True := trivial
theorem lawAll.tw7748678705921917545 : True := trivial
theorem lawAll.tw7778920214163250423 : True := trivial
theorem lawAll.tw7793805146334789873 : True := trivial
theorem lawAll.tw7818931688899879492 : True := trivial
theorem lawAll.tw7825939363324312874 : True := trivial
theorem lawAll.tw7832443736876396364 : True := trivial
theorem lawAll.tw783327496624739606 : True := trivial
theorem lawAll.tw7848603804097068771 : True := trivial
theorem lawAll.tw787205811750517106 : True := trivial
theorem lawAll.tw7877481083679796992 : True := trivial
theorem lawAll.tw789181534448523164 : True := trivial
theorem lawAll.tw7909320376087599559 : True := trivial
theorem lawAll.tw791109831972827674 : True := trivial
theorem lawAll.tw7924488416337270877 : True := trivial
theorem lawAll.tw7950242509994504730 : True := trivial
theorem lawAll.tw7968203488799423809 : True := trivial
theorem lawAll.tw7971631286443832920 : True := trivial
theorem lawAll.tw7988007135442745782 : True := trivial
theorem lawAll.tw799254509242456883 : True := trivial
theorem lawAll.tw7997661237194568792 : True := trivial
theorem lawAll.tw7998014806130130180 : True := trivial
theorem lawAll.tw8004576762470600744 : True := trivial
theorem lawAll.tw8089989994441124800 : True := trivial
theorem lawAll.tw8102576960126853287 : True := trivial
theorem lawAll.tw8110516635894307765 : True := trivial
theorem lawAll.tw8112603998128275705 : True := trivial
theorem lawAll.tw8126546740277840704 : True := trivial
theorem lawAll.tw8139396814092339522 : True := trivial
theorem lawAll.tw8173690033179660868 : True := trivial
theorem lawAll.tw820575892238112889 : True := trivial
theorem lawAll.tw8218230865353327686 : True := trivial
theorem lawAll.tw8219905865952476521 : True := trivial
theorem lawAll.tw8221315558406124940 : True := trivial
theorem lawAll.tw8248333628298705224 : True := trivial
theorem lawAll.tw8274439245441610622 : True := trivial
theorem lawAll.tw8325769386770125583 : True := trivial
theorem lawAll.tw8377060003514276576 : True := trivial
theorem lawAll.tw83813056991679616 : True := trivial
theorem lawAll.tw840954702804453893 : True := trivial
theorem lawAll.tw8414175233433452381 : True := trivial
theorem lawAll.tw8437190035424558355 : True := trivial
theorem lawAll.tw8440466783926224368 : True := trivial
theorem lawAll.tw8477926907556545422 : True := trivial
theorem lawAll.tw8483464660143875151 : True := trivial
theorem lawAll.tw8488778355731571911 : True := trivial
theorem lawAll.tw8495167195832117213 : True := trivial
theorem lawAll.tw8533398548799926023 : True := trivial
theorem lawAll.tw8582609004310260663 : True := trivial
theorem lawAll.tw8596937699995253687 : True := trivial
theorem lawAll.tw8623442654849451351 : True := trivial
theorem lawAll.tw8624006510192069968 : True := trivial
theorem lawAll.tw8624733454573546738 : True := trivial
theorem lawAll.tw862484557501166782 : True := trivial
theorem lawAll.tw8633633608507571868 : True := trivial
theorem lawAll.tw8639964548076576966 : True := trivial
theorem lawAll.tw8640556424618997051 : True := trivial
theorem lawAll.tw8648740447099944098 : True := trivial
theorem lawAll.tw8655312720739093766 : True := trivial
theorem lawAll.tw8708928717859766969 : True := trivial
theorem lawAll.tw8713160391718286410 : True := trivial
theorem lawAll.tw8736624010558762861 : True := trivial
theorem lawAll.tw8739461564636785739 : True := trivial
theorem lawAll.tw8754567770515785225 : True := trivial
theorem lawAll.tw8777877417903742795 : True := trivial
theorem lawAll.tw8793966920657876804 : True := trivial
theorem lawAll.tw8803245978965942699 : True := trivial
theorem lawAll.tw880411134560153238 : True := trivial
theorem lawAll.tw8807741877863875459 : True := trivial
theorem lawAll.tw8830040471477138989 : True := trivial
theorem lawAll.tw8844657068808357724 : True := trivial
theorem lawAll.tw8856270512397418879 : True := trivial
theorem lawAll.tw8871404853653913961 : True := trivial
theorem lawAll.tw8890909840824949032 : True := trivial
theorem lawAll.tw8921707429596602774 : True := trivial
theorem lawAll.tw8922741243182189384 : True := trivial
theorem lawAll.tw8924521779440071781 : True := trivial
theorem lawAll.tw8937422485241074162 : True := trivial
theorem lawAll.tw8947563141627413560 : True := trivial
theorem lawAll.tw8954510054666648616 : True := trivial
theorem lawAll.tw8965910507689891490 : True := trivial
theorem lawAll.tw8971236560355721936 : True := trivial
theorem lawAll.tw8985046620490208892 : True := trivial
theorem lawAll.tw8998515398369688219 : True := trivial
theorem lawAll.tw9022125028007893462 : True := trivial
theorem lawAll.tw9027272024291768948 : True := trivial
theorem lawAll.tw9047105032493522113 : True := trivial
theorem lawAll.tw9074850765878314333 : True := trivial
theorem lawAll.tw9105315868451034361 : True := trivial
theorem lawAll.tw910936876846127874 : True := trivial
theorem lawAll.tw9128287894785145166 : True := trivial
theorem lawAll.tw9129703556297629694 : True := trivial
theorem lawAll.tw9140326996770896256 : True := trivial
theorem lawAll.tw9142492471261881387 : True := trivial
theorem lawAll.tw9163964251370550273 : True := trivial
theorem lawAll.tw917012047138782183 : True := trivial
theorem lawAll.tw9178404652363794503 : True := trivial
theorem lawAll.tw9188812528862692751 : True := trivial
theorem lawAll.tw919178311291700736 : True := trivial
theorem lawAll.tw9213868465451101010 : True := trivial
theorem lawAll.tw9241615656618818384 : True := trivial
theorem lawAll.tw9251896256477500945 : True := trivial
theorem lawAll.tw9277161389617204388 : True := trivial
theorem lawAll.tw9280044584142557807 : True := trivial
theorem lawAll.tw9284990227439327439 : True := trivial
theorem lawAll.tw9298997264930305496 : True := trivial
theorem lawAll.tw9302632430010359398 : True := trivial
theorem lawAll.tw9306294688722956290 : True := trivial
theorem lawAll.tw9317061842728502044 : True := trivial
theorem lawAll.tw9323647005640263621 : True := trivial
theorem lawAll.tw9343331451856720567 : True := trivial
theorem lawAll.tw935661478406994603 : True := trivial
theorem lawAll.tw937581978992572661 : True := trivial
theorem lawAll.tw9421327688512769084 : True := trivial
theorem lawAll.tw944478573581790681 : True := trivial
theorem lawAll.tw9455913353998864775 : True := trivial
theorem lawAll.tw9533389739508127194 : True := trivial
theorem lawAll.tw953386525165580501 : True := trivial
theorem lawAll.tw9564459014399496832 : True := trivial
theorem lawAll.tw9601990180943627904 : True := trivial
theorem lawAll.tw9623488277456622054 : True := trivial
theorem lawAll.tw9674198357879845077 : True := trivial
theorem lawAll.tw9713171519108880712 : True := trivial
theorem lawAll.tw9713449406111041434 : True := trivial
theorem lawAll.tw9757989799737436995 : True := trivial
theorem lawAll.tw9767844155559898063 : True := trivial
theorem lawAll.tw9772157295270917608 : True := trivial
theorem lawAll.tw9827406655626653191 : True := trivial
theorem lawAll.tw9842217532186588811 : True := trivial
theorem lawAll.tw9869743607816531110 : True := trivial
theorem lawAll.tw9898924947404680729 : True := trivial
theorem lawAll.tw9915350927190270799 : True := trivial
theorem lawAll.tw9921357868157149465 : True := trivial
theorem lawAll.tw9922945385648481873 : True := trivial
theorem lawAll.tw9944163139696619427 : True := trivial
theorem lawAll.tw9944566544624591745 : True := trivial
theorem lawAll.tw9966260943144624809 : True := trivial
theorem lawAll.tw9988928803567131668 : True := trivial
theorem lawAll.tw9990001486989655893 : True := trivial
set_option maxRecDepth 100000 in
set_option maxHeartbeats 0 in
set_option rowWalk.seconds 0 in
theorem lawAll : PySem.Challenge.rw_og0026_01.Holds := by
  w_on
  o_law
  o_head (kHook KF KAs KAs_is)
  case hw => w_witness2
  k_go0
  rename World => w9
  obtain ⟨Mk, Po, Le, Bo, Fl, Ro, Rh, Nb⟩ := cs_all w9
  rename (KF _).In _ => X9
  rename Top topProg _ _ _ _ _ => T9
  rename Below _ _ [] _ => B9
  rename Fr _ _ _ _ => F9
  rename Heap.IsList (ghostOf _ _) _ _ => L9
  rename CodeHd _ _ _ => C9
  rename News _ _ _ _ => N9
  rename IntsAre _ _ => I9
  rename _ < Array.size _ => l9
  rename _ = (#[] : Array GenState) => g9
  rename _ = Data.cell (bindC _ _ _ (Str.ofString "side")) => cs9
  rename _ = Data.cell (bindC _ _ _ (Str.ofString "left")) => cl9
  refine law_run2 X9 T9 B9 F9 L9 C9 N9 I9 (by omega) (cs9.trans (congrArg Data.cell rfl)) (cl9.trans (congrArg Data.cell rfl)) rfl l9 rfl rfl PassesOwn.leaving ?fin ?walk
  case fin =>
    intro fl h' tk' m news r F N g
    cases fl with
    | ret v =>
      have r : v = .bool true := r
      subst r
      refine ⟨?_, g, trivial⟩
      kc_close
    | _ => cases r
  case walk =>
    dsimp only
    intro G l cL cS vs ns oL oS hw hs hcl hcd C hout hS hn XB TB hl hi hz dL dS
    (repeat' (first | ((with_reducible refine' Ca.pool Po ?z9hw ?z9hn ?z9hl ?z9hi ?z9hz ?_); (case z9hw => assumption); (case z9hn => omega); (case z9hl => assumption); (case z9hi => assumption); (case z9hz => assumption); intro S9 x9 y9 tx9 ty9 k9 p9 p9 p9) | ((with_reducible refine' Ca.leftL Le ?z9hw ?z9hn ?z9hS ?z9a ?z9b ?z9c ?_); (case z9hw => assumption); (case z9hn => omega); (case z9hS => assumption); (case z9a => assumption); (case z9b => assumption); (case z9c => assumption); intro tl9 S9 ob9 D9 n9 b9 v9 u9 m9 B9 d9; (rcases left_split B9 d9 with ⟨t9, e9, no9⟩ | ⟨D8, n8, t8, r8, p8, e9, m8, dr8, ok8, sz8, B8⟩ | ⟨D8, n8, x8, t8, l8, k8, rs8, ps8, e9, m8, m7, da8, ok8, so8, np8, hl8, B8⟩ <;> subst e9)) | ((with_reducible refine' Ss.asg2C ?z9hs ?z9hcl ?z9hx ?z9hc ?z9hy ?z9hw ?z9hn ?_); (case z9hs => assumption); (case z9hcl => assumption); (case z9hx => kernel_rfl!); (case z9hc => exact rfl); (case z9hy => kernel_rfl!); (case z9hw => (intro _; exact rfl)); (case z9hn => (intro _ _ _ _; kernel_rfl!))) | ((with_reducible refine' ⟨_, _, _, _, _, _, _, _, rfl, ?z9m, ?z9d2, ?z9U, ?z9hd, ?_⟩); (case z9m => ksk_a2); (case z9d2 => first | ((refine' Drp.same ?_); kernel_rfl!) | ((refine' Drp.out ?z9x ?z9y); (case z9x => repeat (first | with_reducible exact Drop.head | with_reducible apply Drop.tail)); (case z9y => kernel_rfl!))); (case z9U => (repeat' (first | with_reducible exact AtF.head | with_reducible refine' AtF.tail ?_ | with_reducible refine' AtF.app ?_))); (case z9hd => assumption); intro o9 hd9) | ((with_reducible refine' Ss.asgC ?z9hs ?z9hcl ?z9hk ?z9hc ?z9hw ?_); (case z9hs => assumption); (case z9hcl => assumption); (case z9hk => kernel_rfl!); (case z9hc => exact rfl); (case z9hw => (intro _; exact rfl))) | ((with_reducible refine' ⟨_, _, _, ?z9U, ?z9hd, ?_⟩); (case z9U => (repeat' (first | with_reducible exact AtF.head | with_reducible refine' AtF.tail ?_ | with_reducible refine' AtF.app ?_))); (case z9hd => assumption); intro o9 hd9) | ((with_reducible refine' Ex.lam ?z9hs ?z9hcl ?z9hcd ?z9C ?z9U ?z9ht ?z9hnf ?z9hclos ?_); (case z9hs => assumption); (case z9hcl => assumption); (case z9hcd => assumption); (case z9C => assumption); (case z9U => (repeat' (first | with_reducible exact AtF.head | with_reducible refine' AtF.tail ?_ | with_reducible refine' AtF.app ?_))); (case z9ht => kn_triples); (case z9hnf => kn_among); (case z9hclos => (intro _ _ _ _; exact rfl)); intro f9 c9 oc9 vs9 t9 ct9 pm9 q9 hd9 hv9) | ((with_reducible refine' Ca.heardW (f := 915) ?z9hno ?z9hw ?z9H ?z9hout ?z9hS ?z9hn ?z9XB ?z9TB ?z9hd1 ?z9he ?z9hre ?z9ml ?_ ?_); (case z9hno => with_reducible assumption); (case z9hw => assumption); (case z9hn => omega); (case z9hout => assumption); (case z9hS => assumption); (case z9XB => assumption); (case z9TB => assumption); (case z9H => kas_ty); (case z9hd1 => kernel_rfl!); (case z9he => kernel_rfl!); (case z9hre => kernel_rfl!); (case z9ml => ksk_a2)) | ((with_reducible refine' Ca.heardOk (f := 915) ?z9hw ?z9H ?z9hn ?_); (case z9hw => assumption); (case z9hn => omega); (case z9H => kas_ty); intro G9 w9 s9 k9 c9; (try replace c9 := c9.trans (by assumption))) | ((with_reducible refine' Ca1.lam ?z9ml ?z9mc ?z9hd ?z9hv ?z9hn ?z9hco ?z9hgen ?z9hk ?z9hcell ?_); (case z9ml => ksk_a2); (case z9mc => ksk_a2); (case z9hd => assumption); (case z9hv => assumption); (case z9hn => omega); (case z9hco => exact rfl); (case z9hgen => exact rfl); (case z9hk => exact rfl); (case z9hcell => kernel_rfl); intro G9 w9 s9 k9 c9 x9 b9 l9; (try replace w9 := w9.trans (by assumption)); (try replace s9 := s9.trans (by assumption)); (try replace c9 := c9.trans (by assumption)); (try replace x9 := x9.trans (by assumption))) | ((with_reducible refine' Ca1.to (Ca1.lam ?z9ml ?z9mc ?z9hd ?z9hv ?z9hn ?z9hco ?z9hgen ?z9hk ?z9hcell ?_)); (case z9ml => ksk_a2); (case z9mc => ksk_a2); (case z9hd => assumption); (case z9hv => assumption); (case z9hn => omega); (case z9hco => exact rfl); (case z9hgen => exact rfl); (case z9hk => exact rfl); (case z9hcell => kernel_rfl); intro G9 w9 s9 k9 c9 x9 b9 l9; (try replace w9 := w9.trans (by assumption)); (try replace s9 := s9.trans (by assumption)); (try replace c9 := c9.trans (by assumption)); (try replace x9 := x9.trans (by assumption))) | ((with_reducible refine' Cw.lam0 ?z9ml ?_); (case z9ml => ksk_a2)) | ((with_reducible refine' Ex.fre ?z9hs ?z9hcl ?z9hc ?z9hm ?z9hd ?z9hk ?z9hdb ?z9hdc ?_); (case z9hs => assumption); (case z9hcl => assumption); (case z9hc => exact rfl); (case z9hm => ksk_a2); (case z9hd => assumption); (case z9hk => kernel_rfl!); (case z9hdb => kernel_rfl); (case z9hdc => kernel_rfl)) | ((with_reducible refine' Ex.cel ?z9hs ?z9hcl ?z9hc ?z9hm ?z9hd ?z9hk ?z9hdb ?_); (case z9hs => assumption); (case z9hcl => assumption); (case z9hc => exact rfl); (case z9hm => ksk_a2); (case z9hd => assumption); (case z9hk => kernel_rfl!); (case z9hdb => kernel_rfl)) | ((with_reducible refine' Cm.patEq ?z9hk ?z9m1 ?z9m2 ?z9m3 ?z9m4 ?z9dA ?z9dB ?z9sa ?z9sb ?z9okp ?_); (case z9hk => omega); (case z9m1 => ksk_a2); (case z9m2 => ksk_a2); (case z9m3 => ksk_a2); (case z9m4 => ksk_a2); (case z9dA => assumption); (case z9dB => assumption); (case z9sa => k_units); (case z9sb => k_units); (case z9okp => assumption)) | ((with_reducible refine' Cm.fnNe ?z9hk ?z9m1 ?z9m2 ?z9m3 ?z9m4 ?z9dA ?z9dB ?z9sa ?z9sb ?z9so ?z9okp ?_); (case z9hk => omega); (case z9m1 => ksk_a2); (case z9m2 => ksk_a2); (case z9m3 => ksk_a2); (case z9m4 => ksk_a2); (case z9dA => assumption); (case z9dB => assumption); (case z9sa => k_units); (case z9sb => k_units); (case z9so => assumption); (case z9okp => assumption)) | ((with_reducible refine' Cm.threeNe ?z9hk ?z9m1 ?z9m2 ?z9m3 ?z9m4 ?z9so ?_); (case z9hk => omega); (case z9m1 => ksk_a2); (case z9m2 => ksk_a2); (case z9m3 => ksk_a2); (case z9m4 => ksk_a2); (case z9so => assumption)) | ((with_reducible refine' Cm.rhsNe ?z9hk ?z9dA ?z9dB ?z9sa ?z9sb ?_); (case z9hk => omega); (case z9dA => assumption); (case z9dB => assumption); (case z9sa => k_units); (case z9sb => k_units)) | ((with_reducible refine' Cm.rowsEq ?z9hk ?z9m2 ?z9m4 ?z9dA ?z9dB ?z9sa ?z9sb ?z9okp ?_); (case z9hk => omega); (case z9m2 => ksk_a2); (case z9m4 => ksk_a2); (case z9dA => assumption); (case z9dB => assumption); (case z9sa => k_units); (case z9sb => k_units); (case z9okp => assumption)) | ((with_reducible refine' Ex.andM ?_)) | ((with_reducible refine' Ex.and1 ?_)) | ((with_reducible refine' Ex.cmp ?z9hm ?_); (case z9hm => exact rfl)) | ((with_reducible refine' ⟨_, _, _, rfl, ?z9m, ?z9hz, ?_⟩); (case z9m => ksk_a2); (case z9hz => exact PatAllIn.lenP (by assumption) (by assumption))) | ((with_reducible refine' rows_map Ro ?z9hw ?z9hk ?z9P ?z9sz ?z9sub ?z9me ?_); (case z9hw => assumption); (case z9hk => omega); (case z9P => assumption); (case z9sz => exact fun p hp => OkAll.sz (by assumption) hp); (case z9sub => k_units); (case z9me => ksk_a2); intro ys9 tl9 hl9 dA9; intro D9) | ((with_reducible refine' Ca.rhsRow Rh ?z9hw ?z9hn ?z9R ?_); (case z9hw => assumption); (case z9hn => omega); (case z9R => exact RhsIn.mk (by ksk_a2) (by ksk_a2) (by ksk_a2) (by ksk_a2) (by ksk_a2) (by ksk_a2) (by ksk_a2) (by ksk_a2) (by ksk_a2) (by ksk_a2)); intro v9 tl9 d9) | ((with_reducible refine' Cw.n0 ?z9hf ?_); (case z9hf => k_is)) | ((with_reducible refine' Ca.i2 ?z9hw ?z9hn ?z9C ?_); (case z9C => first | with_reducible exact Mk.c_lit _ _ | with_reducible exact Mk.c_rhs _ _); (case z9hw => assumption); (case z9hn => first | assumption | exact Nat.le_trans (Nat.le_of_ble_eq_true rfl) (by assumption) | omega); intro tl9 a9 d9 n9 h09 h19 h29 t09 t19 t29 m9 m9) | ((with_reducible refine' Ca.rd0 ?z9hw ?z9hn ?z9C ?_); (case z9C => first | with_reducible exact NoBindsC.use Nb); (case z9hw => assumption); (case z9hn => first | assumption | exact Nat.le_trans (Nat.le_of_ble_eq_true rfl) (by assumption) | omega); intro v9 tl9 o9; cases o9) | ((with_reducible refine' Ca.re ?z9hw ?z9hn ?z9hS ?z9hx ?z9C ?z9s0 ?z9sb); (case z9C => first | with_reducible exact BoundC.no Bo (by assumption)); (case z9hw => assumption); (case z9hn => first | assumption | exact Nat.le_trans (Nat.le_of_ble_eq_true rfl) (by assumption) | omega); (case z9hS => assumption); (case z9hx => assumption); (case z9s0 => k_units); (case z9sb => k_units)) | ((with_reducible refine' Ca.rd ?z9hw ?z9hn ?z9C ?z9sb ?_); (case z9C => first | with_reducible exact BoundC.fn Bo (by assumption) (by assumption) | with_reducible exact BoundC.pat Bo (by assumption) (by assumption) | with_reducible exact FLeftC.fn Fl (by assumption) (by assumption) | with_reducible exact FLeftC.pat Fl (by assumption) | with_reducible exact RowAll.use Ro (by assumption)); (case z9hw => assumption); (case z9hn => first | assumption | exact Nat.le_trans (Nat.le_of_ble_eq_true rfl) (by assumption) | omega); (case z9sb => k_units); intro v9 tl9 sb9 o9; cases o9) | ((with_reducible refine' Ex.attrX ?z9hs ?z9hv ?z9hn ?z9m1 ?z9m2 ?z9hD ?z9hl ?z9hh ?_); (case z9hs => assumption); (case z9hv => ksk_a2); (case z9hn => kernel_rfl); (case z9m1 => ksk_a2); (case z9m2 => ksk_a2); (case z9hD => kernel_rfl!); (case z9hl => k_get); (case z9hh => first | exact rfl | k_handed)) | ((with_reducible refine' Ga.node ?z9m1 ?z9m2 ?z9hD ?z9hx ?z9hl ?z9hv ?_); (case z9m1 => ksk_a2); (case z9m2 => ksk_a2); (case z9hD => kernel_rfl!); (case z9hx => kernel_rfl!); (case z9hl => k_get); (case z9hv => first | exact rfl | k_handed)) | ((with_reducible refine' Gm.row ?z9H ?_); (case z9H => (refine' PatIn.rowIn ?z9R1 ?z9S1; (case z9R1 => assumption); (case z9S1 => k_units)))) | ((with_reducible refine' Gm.row (f := 188) (HasRow.of ?z9m ?z9m2 ?z9c ?z9g) ?_); (case z9m => ksk_a2); (case z9m2 => ksk_a2); (case z9c => kernel_rfl!); (case z9g => kernel_rfl!)) | ((with_reducible refine' Cw.m0 ?z9hf ?_); (case z9hf => first | with_reducible exact keepRow _ _ | k_is)) | ((with_reducible refine' Ex.compR ?z9hxd ?z9he ?z9hclos ?z9hcell ?z9hkind ?z9hnames ?z9hx ?z9hfs ?_); (case z9hxd => kernel_rfl); (case z9he => (intro _; exact ⟨_, rfl⟩)); (case z9hclos => exact rfl); (case z9hcell => kernel_rfl); (case z9hkind => exact rfl); (case z9hnames => kernel_rfl); (case z9hx => kernel_rfl!); (case z9hfs => (intro _ _; exact rfl)); intro m9) | ((with_reducible refine' Te.plain ?z9ht ?_); (case z9ht => (intro _ _; exact rfl))) | (with_reducible refine' ⟨_, rfl, ?_⟩) | ((with_reducible refine' Te.notM ?_)) | ((with_reducible refine' Ss.isiN ?z9hs ?z9hv ?z9hn ?z9hg ?z9m1 ?z9m2 ?z9hD ?_); (case z9hs => assumption); (case z9hv => ksk_a2); (case z9hn => kernel_rfl); (case z9hg => k_is); (case z9m1 => ksk_a2); (case z9m2 => ksk_a2); (case z9hD => kernel_rfl!)) | ((with_reducible refine' Te.isiX false ?z9hs ?z9hv ?z9hn ?z9hg ?z9m1 ?z9m2 ?z9hD ?_); (case z9hs => assumption); (case z9hv => ksk_a2); (case z9hn => kernel_rfl); (case z9hg => k_is); (case z9m1 => ksk_a2); (case z9m2 => ksk_a2); (case z9hD => kernel_rfl!)) | ((with_reducible refine' Te.isiX true ?z9hs ?z9hv ?z9hn ?z9hg ?z9m1 ?z9m2 ?z9hD ?_); (case z9hs => assumption); (case z9hv => ksk_a2); (case z9hn => kernel_rfl); (case z9hg => k_is); (case z9m1 => ksk_a2); (case z9m2 => ksk_a2); (case z9hD => kernel_rfl!)) | ((with_reducible refine' Ca.isi ?z9m1 ?z9m2 ?z9hD ?z9hC false ?z9hb ?_); (case z9m1 => ksk_a2); (case z9m2 => ksk_a2); (case z9hD => kernel_rfl!); (case z9hC => kernel_rfl!); (case z9hb => kernel_rfl!)) | ((with_reducible refine' Ca.isi ?z9m1 ?z9m2 ?z9hD ?z9hC true ?z9hb ?_); (case z9m1 => ksk_a2); (case z9m2 => ksk_a2); (case z9hD => kernel_rfl!); (case z9hC => kernel_rfl!); (case z9hb => kernel_rfl!)) | ((with_reducible refine' Exs.locX ?z9hs ?z9hv ?z9hn ?_); (case z9hs => assumption); (case z9hv => ksk_a2); (case z9hn => kernel_rfl)) | ((with_reducible refine' Exs.nil ?_)) | ((with_reducible refine' Exs.int ?_); intro t9) | ((with_reducible refine' Exs.str ?_); intro t9) | ((with_reducible refine' Exs.none ?_)) | ((with_reducible refine' Exs.cons ?z9hp ?_); (case z9hp => exact rfl)) | ((with_reducible refine' Ex.locX ?z9hs ?z9hv ?z9hn ?_); (case z9hs => assumption); (case z9hv => ksk_a2); (case z9hn => kernel_rfl)) | ((with_reducible refine' Ex.callFX ?z9hs ?z9hg ?z9hf ?z9hn ?_); (case z9hs => assumption); (case z9hg => k_is); (case z9hf => k_is); (case z9hn => kernel_rfl)) | ((with_reducible refine' Ex.int ?_); intro t9) | ((with_reducible refine' Ex.str ?_); intro t9) | ((with_reducible refine' Ex.none ?_)) | ((with_reducible refine' Ex.tup ?z9hz ?_); (case z9hz => exact rfl)) | ((with_reducible refine' Ex.lst ?z9hz ?_); (case z9hz => exact rfl)) | ((with_reducible refine' Ss.ret ?_)) | ((with_reducible refine' Ss.iteR ?_)) | ((with_reducible refine' Ss.asg ?z9hs ?z9hk ?z9hw ?z9hx ?_); (case z9hs => assumption); (case z9hk => kernel_rfl!); (case z9hw => (intro _; exact rfl)); (case z9hx => kernel_rfl!)) | ((with_reducible refine' Te.eqXS (c := true) ?z9hs ?z9hv ?z9hk ?z9hd ?z9hc ?_); (case z9hs => assumption); (case z9hv => ksk_a2); (case z9hk => kernel_rfl!); (case z9hd => kernel_rfl); (case z9hc => first | assumption | kernel_rfl!)) | ((with_reducible refine' Te.eqXS (c := false) ?z9hs ?z9hv ?z9hk ?z9hd ?z9hc ?_); (case z9hs => assumption); (case z9hv => ksk_a2); (case z9hk => kernel_rfl!); (case z9hd => kernel_rfl); (case z9hc => first | assumption | kernel_rfl!)) | ((with_reducible refine' Te.cmp ?z9hm ?_); (case z9hm => exact rfl)) | ((with_reducible refine' Te.ors ?_); intro w9) | ((with_reducible refine' Te.or ?_)) | ((with_reducible refine' Te.or0 ?_)) | ((with_reducible refine' Cm.eqS (c := true) ?z9hc ?_); (case z9hc => first | assumption | kernel_rfl!)) | ((with_reducible refine' Cm.eqS (c := false) ?z9hc ?_); (case z9hc => first | assumption | kernel_rfl!)) | ((with_reducible refine' Cm.eqTS ?z9m ?_); (case z9m => ksk_a2)) | ((with_reducible refine' Cm.isNN ?_)) | ((with_reducible refine' Ex.itemX ?z9hs ?z9hv ?z9hn ?z9m ?z9ho ?z9hi ?z9hx ?_); (case z9hs => assumption); (case z9hv => ksk_a2); (case z9hn => kernel_rfl); (case z9m => ksk_a2); (case z9ho => first | with_reducible exact SeqO.list | with_reducible exact SeqO.pair | with_reducible exact SeqO.tup); (case z9hi => kernel_rfl); (case z9hx => first | exact rfl | assumption)) | ((with_reducible refine' Ex.sub ?_)) | ((with_reducible refine' Ex.meth ?z9he ?_); (case z9he => exact rfl)) | ((with_reducible refine' Ex.callB ?z9hs ?z9hg ?z9hv ?z9hm ?z9hk ?z9hd ?z9hp ?_); (case z9hs => assumption); (case z9hg => k_is); (case z9hv => boot_fast); (case z9hm => decide); (case z9hk => kernel_rfl!); (case z9hd => kernel_rfl); (case z9hp => exact rfl)) | ((with_reducible refine' Ca.len ?z9m ?z9hk ?z9hz ?_); (case z9m => ksk_a2); (case z9hk => first | (exact len_lit (k := 2) (ki := 2) rfl rfl) | (exact len_lit (k := 1) (ki := 1) rfl rfl) | (exact len_lit (k := 3) (ki := 3) rfl rfl) | (exact len_lit (k := 4) (ki := 4) rfl rfl) | (exact len_lit (k := 0) (ki := 0) rfl rfl) | (exact len_lit (k := 5) (ki := 5) rfl rfl) | (exact len_lit (k := 6) (ki := 6) rfl rfl) | (exact len_lit (k := 7) (ki := 7) rfl rfl) | (exact len_lit (k := 8) (ki := 8) rfl rfl) | (exact len_lit (k := 9) (ki := 9) rfl rfl) | exact ⟨rfl, rfl⟩); (case z9hz => first | exact Nat.le_of_ble_eq_true rfl | omega); intro t9) | ((with_reducible refine' Sb.item ?z9m ?z9ho ?z9h0 ?z9hi ?z9hx ?z9hs ?_); (case z9m => ksk_a2); (case z9ho => first | with_reducible exact SeqO.list | with_reducible exact SeqO.pair | with_reducible exact SeqO.tup); (case z9h0 => first | decide | omega); (case z9hi => first | decide | omega); (case z9hx => first | exact rfl | assumption); (case z9hs => exact rfl)) | ((with_reducible refine' Ex.gloX ?z9hs ?z9e ?z9hn ?_); (case z9hs => assumption); (case z9e => k_is); (case z9hn => kernel_rfl)) | ((with_reducible refine' Ex.call ?_)) | (with_reducible intro a9)))
    all_goals exact ⟨rfl, _, by ksk_a2⟩
end
end Mine
theorem PySem.Challenge.cw_og0026_01_holds : PySem.Challenge.rw_og0026_01.Holds :=
  Mine.lawAll
